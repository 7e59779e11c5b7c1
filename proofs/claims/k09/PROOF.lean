import PyProof.Rows.All
import Wide.All
import OpenK.AllK
import Wide.FinOn
import HandS.ForMost
import HandS.ForExc
import HandS.Wide
import HandS.IsInst
import HandS.Defaults
import HandS.MakeKwOnly
import HandS.Property
import HandS.Strs
import HandS.Flow
import HandS.Zip
import HandS.Lambda
import HandS.ExcSuper
import HandS.ExcInit
import HandS.ExcValue
import HandS.ExcField
import HandS.ExcIs
import KE.KExcSuper
import KE.KExcIs
import HandS.EndTab
import HandS.Conv
import HandS.Walk
import PyProof.NeKinds
import HandS.TupAny
import HandS.SetFor
import HandS.Deep
import HandS.Text
import HandS.StrSplit
import HandS.More
import HandS.Style
import KE.GoesEnum
import HandS.Star
import PyProof.InstNe
import KE.KDictPairs
import HandS.Dict
import HandS.MakeKw
import KE.KOpsOwn
import OpenK.KOps
import KE.KFmtOwn
import PyProof.InstEq
import PySem.Challenge.RW_aimedpresses_k09_ticks_of_persons
set_option Elab.async false
set_option linter.all false
set_option maxRecDepth 100000
set_option maxHeartbeats 4000000
namespace Aim
open PySem PySem.Spec PyProof.Rows L2
/-! ### draws: the pot, a list of three ints that is known by its bounds alone -/
/-- what the three numbers of a pot keep: n draws at most so far -/
structure PotB (d m t : Int) (n : Nat) : Prop where
  d0 : 0 ≤ d
  m0 : -(2 ^ 62) < m
  m1 : m < 2 ^ 62
  t0 : 0 ≤ t
  t1 : t ≤ n
def PotO (n : Nat) (a : Addr) : HO := .ext fun h => ∃ (d m t : Int) (i0 i1 i2 : Tok) (k : Nat), h.get? a = some { cls := .type "list", data := .seq #[.int d i0, .int m i1, .int t i2] k } ∧ PotB d m t n
theorem PotO.ok {P : Program} {w : World} {H : Hp} {h : Heap} {a : Addr} {n k : Nat} {d m t : Int} {i0 i1 i2 : Tok} (e : h.get? a = some { cls := .type "list", data := .seq #[.int d i0, .int m i1, .int t i2] k }) (b : PotB d m t n) : ObjOk P w H h a (PotO n a) :=
  ⟨⟨d, m, t, i0, i1, i2, k, e, b⟩, ⟨_, e⟩, fun _ _ ⟨d, m, t, i0, i1, i2, k, q, b⟩ f => ⟨d, m, t, i0, i1, i2, k, f _ q, b⟩⟩
theorem PotO.at {P : Program} {w : World} {H : Hp} {h : Heap} {a : Addr} {n : Nat} (hok : HOk P w H h) (e : H a = some (PotO n a)) : ∃ (d m t : Int) (i0 i1 i2 : Tok) (k : Nat), h.get? a = some { cls := .type "list", data := .seq #[.int d i0, .int m i1, .int t i2] k } ∧ PotB d m t n := by
  obtain ⟨x, _, _⟩ := (show ObjOk P w H h a (PotO n a) from hok a _ e)
  exact x
theorem PotB.mono {d m t : Int} {n k : Nat} (b : PotB d m t n) (h : n ≤ k) : PotB d m t k := ⟨b.d0, b.m0, b.m1, b.t0, by have := b.t1; omega⟩

section
variable {X : Cx} {pins : List (Addr × Obj)} {σ : L2.St} {H : Hp} {s : Shared}
/-- what is told of an object is told otherwise -/
theorem retell {a : Addr} {o : HO} (I : Inv X pins σ H s) (mu : Mut (H a)) (there : ∃ u, s.heap.get? a = some u) (new : ObjOk X.prog X.w (upd H a o) s.heap a o) : Inv X pins σ (upd H a o) s :=
  I.write (t' := s.toks) (x := a) (e := a) (o := o) mu (.inl rfl) (fun _ _ _ q => q) there new
theorem upd_self {H : Hp} {a : Addr} {o : HO} (h : H a = some o) : upd H a o = H := by
  funext b
  by_cases e : b = a
  · rw [e, upd_same, h]
  · rw [upd_ne e]
/-- a new list of three numbers is a pot -/
def tPot (te : TE) : TE := fun σ H Q => te σ H fun x H1 => ∃ (p : Addr) (d m t : Int) (n : Nat), x = .ref p ∧ H1 p = some (.lst [.int d, .int m, .int t]) ∧ PotB d m t n ∧ Q (.ref p) (upd H1 p (PotO n p))
theorem pe_pot {e : Expr} {te : TE} (he : PE X e te) : PE X e (tPot te) := by
  refine ⟨fun pins s σ H Q I h => thn (he.run pins s σ H _ I h) fun u s1 ⟨x, H1, I1, r1, p, d, m, t, n, ex, hp, hb, q⟩ => ?_⟩
  subst ex
  obtain ⟨_, its, k, rv, hg⟩ := (show ObjOk X.prog X.w H1 s1.heap p (.lst [.int d, .int m, .int t]) from I1.hok p _ hp)
  cases rv with
  | cons r0 rv =>
    cases rv with
    | cons r1' rv =>
      cases rv with
      | cons r2 rv =>
        cases rv
        obtain ⟨i0, rfl⟩ := r0
        obtain ⟨i1, rfl⟩ := r1'
        obtain ⟨i2, rfl⟩ := r2
        exact ⟨_, _, retell I1 (by rw [hp]; exact True.intro) ⟨_, hg⟩ (PotO.ok hg hb), r1, q⟩
/-- pot[0], pot[1], pot[2] -/
def rIxP : R2 := fun x y H Q => ∃ (p : Addr) (n : Nat) (i : Int), x = .ref p ∧ y = .int i ∧ H p = some (PotO n p) ∧ ((i = 0 ∧ ∀ d : Int, 0 ≤ d → Q (.int d) H) ∨ (i = 1 ∧ ∀ m : Int, -(2 ^ 62) < m → m < 2 ^ 62 → Q (.int m) H) ∨ (i = 2 ∧ ∀ t : Int, 0 ≤ t → t ≤ n → Q (.int t) H))
theorem ix_pot : IxR X rIxP := by
  intro value slice pins s σ H x y v u Q I rx ry ⟨p, n, i, ex, ey, hp, q⟩ hs
  subst ex
  subst ey
  obtain ⟨d, m, t, i0, i1, i2, k, hg, b⟩ := PotO.at I.hok hp
  have I1 : Inv X pins σ (upd H p (.lst [.int d, .int m, .int t])) s :=
    retell I (by rw [hp]; exact True.intro) ⟨_, hg⟩ ⟨by show 3 ≤ sizeLine; decide, [.int d i0, .int m i1, .int t i2], k, .cons ⟨_, rfl⟩ (.cons ⟨_, rfl⟩ (.cons ⟨_, rfl⟩ .nil)), hg⟩
  have back : ∀ {s' : Shared} {z : V} {w : Value}, Inv X pins σ (upd H p (.lst [.int d, .int m, .int t])) s' → RelV z w → Q z H → EP X pins σ Q w s' := fun {s' z w} J rz q => by
    obtain ⟨_, its, k', rv, hg'⟩ := (show ObjOk X.prog X.w (upd H p (.lst [.int d, .int m, .int t])) s'.heap p (.lst [.int d, .int m, .int t]) from J.hok p _ upd_same)
    cases rv with
    | cons r0 rv =>
      cases rv with
      | cons r1' rv =>
        cases rv with
        | cons r2 rv =>
          cases rv
          obtain ⟨j0, rfl⟩ := r0
          obtain ⟨j1, rfl⟩ := r1'
          obtain ⟨j2, rfl⟩ := r2
          have J2 := retell (o := PotO n p) J (by rw [upd_same]; exact True.intro) ⟨_, hg'⟩ (PotO.ok hg' b)
          rw [upd_upd, upd_self hp] at J2
          exact ⟨z, H, J2, rz, q⟩
  have key : ∀ (z : V), atI [V.int d, V.int m, V.int t] i = some z → Q z H → wpAny (model X.prog X.w) X.A (subscriptTail value slice v u) (EP X pins σ Q) X.xe s := fun z hz q =>
    thn (ix_list value slice pins s σ _ (.ref p) (.int i) v u (fun y H' => y = z ∧ H' = upd H p (.lst [.int d, .int m, .int t])) I1 rx ry ⟨p, _, i, z, rfl, rfl, SqL.of upd_same, hz, rfl, rfl⟩ hs) fun w s' ⟨y, H', J, rw', ey, eH⟩ => by
      subst ey
      subst eH
      exact back J rw' q
  rcases q with ⟨e, q⟩ | ⟨e, q⟩ | ⟨e, q⟩
  · subst e
    exact key (.int d) rfl (q d b.d0)
  · subst e
    exact key (.int m) rfl (q m b.m0 b.m1)
  · subst e
    exact key (.int t) rfl (q t b.t0 b.t1)
/-- pot[0] = d; pot[2] = t -/
def rSetP : TSet := fun o i v H Q => ∃ (p : Addr) (n : Nat) (j z : Int), o = .ref p ∧ i = .int j ∧ v = .int z ∧ H p = some (PotO n p) ∧ ((j = 0 ∧ 0 ≤ z ∧ ∃ n' : Nat, n ≤ n' ∧ Q (upd H p (PotO n' p))) ∨ (j = 2 ∧ ∃ n' : Nat, n ≤ n' ∧ 0 ≤ z ∧ z ≤ n' ∧ Q (upd H p (PotO n' p))))
theorem set_pot : PSet X rSetP := by
  intro pins s σ H o i v ov iv u Q I ro ri rv ⟨p, n, j, z, eo, ei, ev, hp, q⟩
  subst eo
  subst ei
  subst ev
  obtain ⟨d, m, t, i0, i1, i2, k, hg, b⟩ := PotO.at I.hok hp
  have I1 : Inv X pins σ (upd H p (.lst [.int d, .int m, .int t])) s :=
    retell I (by rw [hp]; exact True.intro) ⟨_, hg⟩ ⟨by show 3 ≤ sizeLine; decide, [.int d i0, .int m i1, .int t i2], k, .cons ⟨_, rfl⟩ (.cons ⟨_, rfl⟩ (.cons ⟨_, rfl⟩ .nil)), hg⟩
  have back : ∀ {s' : Shared} {d m t : Int} {n' : Nat}, Inv X pins σ (upd (upd H p (.lst [.int d, .int m, .int t])) p (.lst [.int d, .int m, .int t])) s' → PotB d m t n' → Q (upd H p (PotO n' p)) → ∃ H', Inv X pins σ H' s' ∧ Q H' := fun {s' d m t n'} J b q => by
    rw [upd_upd] at J
    obtain ⟨_, its, k', rv, hg'⟩ := (show ObjOk X.prog X.w (upd H p (.lst [.int d, .int m, .int t])) s'.heap p (.lst [.int d, .int m, .int t]) from J.hok p _ upd_same)
    cases rv with
    | cons r0 rv =>
      cases rv with
      | cons r1' rv =>
        cases rv with
        | cons r2 rv =>
          cases rv
          obtain ⟨j0, rfl⟩ := r0
          obtain ⟨j1, rfl⟩ := r1'
          obtain ⟨j2, rfl⟩ := r2
          have J2 := retell (o := PotO n' p) J (by rw [upd_same]; exact True.intro) ⟨_, hg'⟩ (PotO.ok hg' b)
          rw [upd_upd] at J2
          exact ⟨_, J2, q⟩
  rcases q with ⟨e, z0, n', hn, q⟩ | ⟨e, n', hn, z0, z1, q⟩
  · subst e
    refine thn (set_list pins s σ _ (.ref p) (.int 0) (.int z) ov iv u (fun H' => H' = upd (upd H p (.lst [.int d, .int m, .int t])) p (.lst [.int z, .int m, .int t])) I1 ro ri rv ⟨p, _, 0, 0, rfl, rfl, upd_same, rfl, rfl⟩) fun _ s' ⟨H', J, eH⟩ => ?_
    subst eH
    rw [upd_upd] at J
    refine back (s' := s') (d := z) (m := m) (t := t) (n' := n') (by rw [upd_upd]; exact J) ⟨z0, b.m0, b.m1, b.t0, (b.mono hn).t1⟩ q
  · subst e
    refine thn (set_list pins s σ _ (.ref p) (.int 2) (.int z) ov iv u (fun H' => H' = upd (upd H p (.lst [.int d, .int m, .int t])) p (.lst [.int d, .int m, .int z])) I1 ro ri rv ⟨p, _, 2, 2, rfl, rfl, upd_same, rfl, rfl⟩) fun _ s' ⟨H', J, eH⟩ => ?_
    subst eH
    rw [upd_upd] at J
    exact back (s' := s') (d := d) (m := m) (t := z) (n' := n') (by rw [upd_upd]; exact J) ⟨b.d0, b.m0, b.m1, z0, z1⟩ q
/-- powers of great numbers -/
theorem op_powW : OpR X (binaryOp .Pow) (rI (fun i j => 0 ≤ j ∧ (Builtin.Int.intBits i : Int) * j ≤ 2 ^ 27) fun i j => .int (i ^ j.toNat)) := opI fun _ _ _ _ _ _ _ hc q => pow_int hc.1 hc.2 q
end
end Aim

namespace Aim
open PySem PySem.Spec PyProof.Rows L2
/-! ### heaps that grow: all but pots and code tables stands -/
theorem codeO_np {c : Addr} {q : Str} {n : Nat} : LamX.CodeO c q ≠ PotO n c := fun z => by
  unfold LamX.CodeO PotO at z
  injection z with z
  obtain ⟨h, hh⟩ : ∃ h : Heap, h.get? c = some { cls := .type "list", data := .seq #[.int 0 0, .int 0 0, .int 0 0] 0 } := ⟨⟨Array.replicate (c + 1) { cls := .type "list", data := .seq #[.int 0 0, .int 0 0, .int 0 0] 0 }, {}⟩, by simp [Heap.get?]⟩
  have y := congrFun z h
  have q : ∃ (oc : Obj) (vs : Array Value) (t : Tok), h.get? c = some oc ∧ oc.data = .fields vs ∧ vs[1]? = some (.str q t) := by
    rw [y]
    exact ⟨0, 0, 0, 0, 0, 0, 0, hh, ⟨by omega, by decide, by decide, by omega, by omega⟩⟩
  obtain ⟨oe, vs, t, e1, e2, _⟩ := q
  rw [hh] at e1
  cases e1
  cases e2
/-- T: the code tables of the law's lambdas -/
def Ext (T : List (Addr × Str)) (H H' : Hp) : Prop := (∀ b o, H b = some o → (∀ n, o ≠ PotO n b) → (∀ ps, o ≠ .tbl ps) → H' b = some o) ∧ (LamX.Tabs T H → LamX.Tabs T H')
theorem Ext.refl {T : List (Addr × Str)} (H : Hp) : Ext T H H := ⟨fun _ _ e _ _ => e, id⟩
theorem Ext.trans {T : List (Addr × Str)} {H H1 H2 : Hp} (a : Ext T H H1) (b : Ext T H1 H2) : Ext T H H2 := ⟨fun c o e n m => b.1 c o (a.1 c o e n m) n m, fun x => b.2 (a.2 x)⟩
theorem Ext.of {T : List (Addr × Str)} {H H' : Hp} (e : ∀ b o, H b = some o → H' b = some o) : Ext T H H' := ⟨fun b o h _ _ => e b o h, fun t => t.ext e⟩
theorem Ext.new {T : List (Addr × Str)} {H : Hp} {p : Addr} {o : HO} (h : H p = none) : Ext T H (upd H p o) := .of fun b u e => by
  rw [upd_ne (ne_of_none e h)]
  exact e
theorem Ext.pot {T : List (Addr × Str)} {H : Hp} {p : Addr} {n m : Nat} (h : H p = some (PotO n p)) : Ext T H (upd H p (PotO m p)) := by
  have k : ∀ b u, H b = some u → (∀ n, u ≠ PotO n b) → upd H p (PotO m p) b = some u := fun b u e k => by
    by_cases hb : b = p
    · subst hb
      rw [h] at e
      exact absurd (Option.some.inj e).symm (k n)
    · rw [upd_ne hb]
      exact e
  refine ⟨fun b u e q _ => k b u e q, fun t x hx => ?_⟩
  obtain ⟨ps, h1, h2, h3⟩ := t x hx
  refine ⟨ps, k _ _ h1 (fun n z => by unfold PotO at z; cases z), h2, fun pos cv hc => ?_⟩
  obtain ⟨c, e1, e2⟩ := h3 pos cv hc
  exact ⟨c, e1, k _ _ e2 fun n => codeO_np⟩
theorem Ext.lam {T : List (Addr × Str)} {H H' : Hp} (e : LamX.ExtN H H') (t : LamX.Tabs T H') : Ext T H H' := ⟨fun b o h _ n => e b o h n, fun _ => t⟩
theorem lst_np {xs : List V} {n : Nat} {a : Addr} : HO.lst xs ≠ PotO n a := fun z => by
  unfold PotO at z
  cases z
theorem tup_np {xs : List V} {n : Nat} {a : Addr} : HO.tup xs ≠ PotO n a := fun z => by
  unfold PotO at z
  cases z
theorem frz_np {o : Obj} {u : HO} {n : Nat} {a : Addr} : HO.frz o u ≠ PotO n a := fun z => by
  unfold PotO at z
  cases z
theorem dK_np {k : List (Key × V)} {n : Nat} {a : Addr} : HO.dK k ≠ PotO n a := fun z => by
  unfold PotO at z
  cases z
theorem ins_np {C dx : Addr} {fs : List (Str × V)} {n : Nat} {a : Addr} : HO.ins C dx fs ≠ PotO n a := fun z => by
  unfold PotO at z
  cases z
theorem own_np {x : Addr} {n : Nat} {a : Addr} : HO.own x ≠ PotO n a := fun z => by
  unfold PotO at z
  cases z
theorem xd_np {fs : List (Str × V)} {n : Nat} {a : Addr} : HO.xd fs ≠ PotO n a := fun z => by
  unfold PotO at z
  cases z
section
variable {K : PySem.W.Frag} {T : List (Addr × Str)} {H H' : Hp}
theorem Ext.lst {a : Addr} {xs : List V} (e : Ext T H H') (h : H a = some (.lst xs)) : H' a = some (.lst xs) := e.1 a _ h (fun _ => lst_np) fun _ z => nomatch z
theorem Ext.tup {a : Addr} {xs : List V} (e : Ext T H H') (h : H a = some (.tup xs)) : H' a = some (.tup xs) := e.1 a _ h (fun _ => tup_np) fun _ z => nomatch z
theorem Ext.dK {a : Addr} {xs : List (Key × V)} (e : Ext T H H') (h : H a = some (.dK xs)) : H' a = some (.dK xs) := e.1 a _ h (fun _ => dK_np) fun _ z => nomatch z
theorem Ext.ins {a C dx : Addr} {fs : List (Str × V)} (e : Ext T H H') (h : H a = some (.ins C dx fs)) : H' a = some (.ins C dx fs) := e.1 a _ h (fun _ => ins_np) fun _ z => nomatch z
theorem Ext.frz {a : Addr} {o : Obj} {u : HO} (e : Ext T H H') (h : H a = some (.frz o u)) : H' a = some (.frz o u) := e.1 a _ h (fun _ => frz_np) fun _ z => nomatch z
theorem Ext.xd {a : Addr} {fs : List (Str × V)} (e : Ext T H H') (h : H a = some (.xd fs)) : H' a = some (.xd fs) := e.1 a _ h (fun _ => xd_np) fun _ z => nomatch z
theorem Ext.sqL {a : Addr} {xs : List V} (e : Ext T H H') (h : SqL K H a xs) : SqL K H' a xs := by
  rcases h with (h | ⟨o, h⟩) | h
  · exact .inl (.inl (e.lst h))
  · exact .inl (.inr ⟨o, e.frz h⟩)
  · exact .inr h
theorem Ext.sqT {a : Addr} {xs : List V} (e : Ext T H H') (h : SqT K H a xs) : SqT K H' a xs := by
  rcases h with (h | ⟨o, h⟩) | h
  · exact .inl (.inl (e.tup h))
  · exact .inl (.inr ⟨o, e.frz h⟩)
  · exact .inr h
end
/-! ### plain data in the heap -/
def keyD : Key → PyData
  | .inl i => .int i
  | .inr x => .str x
mutual
inductive DD (K : PySem.W.Frag) (H : Hp) : V → PyData → Prop
  | non : DD K H .non .none
  | bl (b : Bool) : DD K H (.bl b) (.bool b)
  | int (i : Int) : DD K H (.int i) (.int i)
  | str (x : Str) : DD K H (.str x) (.str x)
  | lst {a : Addr} {xs : List V} {ds : List PyData} : SqL K H a xs → DDs K H xs ds → DD K H (.ref a) (.list ds)
  | tup {a : Addr} {xs : List V} {ds : List PyData} : SqT K H a xs → DDs K H xs ds → DD K H (.ref a) (.tuple ds)
  | dct {a : Addr} {kvs : List (Key × V)} {ps : List (PyData × PyData)} : H a = some (.dK kvs) → ps.map (·.1) = kvs.map (fun kv => keyD kv.1) → DDs K H (kvs.map (·.2)) (ps.map (·.2)) → DD K H (.ref a) (.dict ps)
inductive DDs (K : PySem.W.Frag) (H : Hp) : List V → List PyData → Prop
  | nil : DDs K H [] []
  | cons {v : V} {vs : List V} {d : PyData} {ds : List PyData} : DD K H v d → DDs K H vs ds → DDs K H (v :: vs) (d :: ds)
end
section
variable {K : PySem.W.Frag} {T : List (Addr × Str)} {H H' : Hp}
mutual
theorem DD.mono (e : Ext T H H') : ∀ {v : V} {d : PyData}, DD K H v d → DD K H' v d
  | _, _, .non => .non
  | _, _, .bl b => .bl b
  | _, _, .int i => .int i
  | _, _, .str x => .str x
  | _, _, .lst hs ha => .lst (e.sqL hs) (DDs.mono e ha)
  | _, _, .tup hs ha => .tup (e.sqT hs) (DDs.mono e ha)
  | _, _, .dct hs hk ha => .dct (e.dK hs) hk (DDs.mono e ha)
theorem DDs.mono (e : Ext T H H') : ∀ {vs : List V} {ds : List PyData}, DDs K H vs ds → DDs K H' vs ds
  | _, _, .nil => .nil
  | _, _, .cons h r => .cons (DD.mono e h) (DDs.mono e r)
end
theorem DDs.length : ∀ {vs : List V} {ds : List PyData}, DDs K H vs ds → vs.length = ds.length
  | _, _, .nil => rfl
  | _, _, .cons _ r => congrArg (· + 1) (DDs.length r)
theorem DDs.get : ∀ {vs : List V} {ds : List PyData} {i : Nat} {v : V}, DDs K H vs ds → vs[i]? = some v → ∃ d, ds[i]? = some d ∧ DD K H v d
  | _, _, _, _, .nil, e => by simp at e
  | _, _, 0, _, .cons h _, e => by
    simp at e
    subst e
    exact ⟨_, rfl, h⟩
  | _, _, i + 1, _, .cons _ r, e => by
    obtain ⟨d, e1, e2⟩ := DDs.get (i := i) r (by simpa using e)
    exact ⟨d, by simpa using e1, e2⟩
theorem DDs.getD : ∀ {vs : List V} {ds : List PyData} {i : Nat} {d : PyData}, DDs K H vs ds → ds[i]? = some d → ∃ v, vs[i]? = some v ∧ DD K H v d
  | _, _, _, _, .nil, e => by simp at e
  | _, _, 0, _, .cons h _, e => by
    simp at e
    subst e
    exact ⟨_, rfl, h⟩
  | _, _, i + 1, _, .cons _ r, e => by
    obtain ⟨d, e1, e2⟩ := DDs.getD (i := i) r (by simpa using e)
    exact ⟨d, by simpa using e1, e2⟩
theorem DDs.append : ∀ {vs us : List V} {ds es : List PyData}, DDs K H vs ds → DDs K H us es → DDs K H (vs ++ us) (ds ++ es)
  | _, _, _, _, .nil, s => s
  | _, _, _, _, .cons h r, s => .cons h (DDs.append r s)
theorem DDs.take : ∀ {vs : List V} {ds : List PyData} (n : Nat), DDs K H vs ds → DDs K H (vs.take n) (ds.take n)
  | _, _, 0, _ => by simp; exact .nil
  | _, _, _ + 1, .nil => by simp; exact .nil
  | _, _, n + 1, .cons h r => .cons h (DDs.take n r)
theorem DDs.drop : ∀ {vs : List V} {ds : List PyData} (n : Nat), DDs K H vs ds → DDs K H (vs.drop n) (ds.drop n)
  | _, _, 0, r => r
  | _, _, _ + 1, .nil => .nil
  | _, _, n + 1, .cons _ r => DDs.drop n r
theorem DDs.reverse : ∀ {vs : List V} {ds : List PyData}, DDs K H vs ds → DDs K H vs.reverse ds.reverse
  | _, _, .nil => .nil
  | _, _, .cons h r => by
    rw [List.reverse_cons, List.reverse_cons]
    exact DDs.append (DDs.reverse r) (.cons h .nil)
theorem DDs.strs : ∀ (xs : List Str), DDs K H (xs.map V.str) (xs.map PyData.str)
  | [] => .nil
  | x :: r => .cons (.str x) (DDs.strs r)
end
/-! ### reading them off the raw heap -/
mutual
def noList : PyData → Bool
  | .none | .bool _ | .int _ | .str _ => true
  | .list _ => false
  | .tuple xs => noLists xs
  | .dict kvs => noListK kvs
def noLists : List PyData → Bool
  | [] => true
  | x :: xs => noList x && noLists xs
def noListK : List (PyData × PyData) → Bool
  | [] => true
  | (_, v) :: r => noList v && noListK r
end
theorem noListK_map : ∀ (ps : List (PyData × PyData)), noListK ps = noLists (ps.map (·.2))
  | [] => rfl
  | (k, v) :: r => by
    show (noList v && noListK r) = (noList v && noLists (r.map (·.2)))
    rw [noListK_map r]
theorem keysRead {P : Program} {w : World} {h : Heap} : ∀ {es : List DictEntry} {kvs : List (Key × Value)}, Pairs (mixKind P w) es kvs → ReadsAll h (es.map (·.key)) (kvs.map fun kv => keyD kv.1) []
  | _, _, .nil => .nil
  | _, _, .cons (e := e) (kv := kv) h1 _ r => by
    have q := keysRead (h := h) r
    have h1 : keyIs kv.1 e.key = true := h1
    have z : Reads h e.key (keyD kv.1) [] := by
      obtain ⟨k, u⟩ := kv
      rcases keyIs_shape h1 with ⟨i, t, e1, e2⟩ | ⟨x, t, e1, e2⟩
      · dsimp only at e1
        subst e1
        rw [e2]
        exact .int i t
      · dsimp only at e1
        subst e1
        rw [e2]
        exact .str x t
    exact ReadsAll.cons z q
theorem valsPaired {P : Program} {w : World} : ∀ {es : List DictEntry} {kvs : List (Key × Value)}, Pairs (mixKind P w) es kvs → es.map (·.val) = kvs.map (·.2)
  | _, _, .nil => rfl
  | _, _, .cons _ h2 r => by
    rw [List.map_cons, List.map_cons, h2, valsPaired r]
theorem kv_keys : ∀ {kvs : List (Key × V)} {vs : List (Key × Value)}, KV kvs vs → kvs.map (fun kv => keyD kv.1) = vs.map (fun kv => keyD kv.1) ∧ Vals (kvs.map (·.2)) (vs.map (·.2))
  | _, _, .nil => ⟨rfl, .nil⟩
  | _, _, .cons h r => by
    obtain ⟨e1, e2⟩ := kv_keys r
    refine ⟨?_, .cons h.2 e2⟩
    rw [List.map_cons, List.map_cons, h.1, e1]
section
variable {X : Cx} {pins : List (Addr × Obj)} {σ : L2.St} {H : Hp} {s : Shared}
mutual
theorem DD.reads (I : Inv X pins σ H s) : ∀ {v : V} {d : PyData} {u : Value}, DD X.K H v d → RelV v u → ∃ as, Reads s.heap u d as ∧ (noList d = true → sysModules ∉ as)
  | _, _, _, .non, r => by
    cases r
    exact ⟨_, Reads.none, fun _ h => nomatch h⟩
  | _, _, _, .bl b, r => by
    cases r
    exact ⟨_, Reads.bool b, fun _ h => nomatch h⟩
  | _, _, _, .int i, r => by
    obtain ⟨t, rfl⟩ := r
    exact ⟨_, Reads.int i t, fun _ h => nomatch h⟩
  | _, _, _, .str x, r => by
    obtain ⟨t, rfl⟩ := r
    exact ⟨_, Reads.str x t, fun _ h => nomatch h⟩
  | _, _, _, .lst hs ha, r => by
    cases r
    obtain ⟨its, rv, ⟨o, n, ho, hc, _, hd⟩, _⟩ := I.list hs
    obtain ⟨as, hr, _⟩ := DDs.reads I ha rv
    exact ⟨_, Reads.list ho hc hd hr, fun z => by simp [noList] at z⟩
  | _, _, _, .tup hs ha, r => by
    cases r
    obtain ⟨its, rv, ⟨o, ho, hc, n, hd⟩, _⟩ := I.tuple hs
    obtain ⟨as, hr, hn⟩ := DDs.reads I ha rv
    exact ⟨_, Reads.tuple ho hc hd hr, fun z => hn (by simpa [noList] using z)⟩
  | _, _, _, .dct (a := a) (kvs := kvs) (ps := ps) hs hk ha, r => by
    cases r
    obtain ⟨_, hS, vs, rk, o, es, ep, ho, hx, hd, _, hp, _⟩ := (show ObjOk X.prog X.w H s.heap a (.dK kvs) from I.hok a _ hs)
    obtain ⟨e1, e2⟩ := kv_keys rk
    have k1 : ReadsAll s.heap (es.toList.map (·.key)) (ps.map (·.1)) [] := by
      rw [hk, e1]
      exact keysRead hp
    obtain ⟨as, hr, hn⟩ := DDs.reads I ha e2
    have k2 : ReadsAll s.heap (es.toList.map (·.val)) (ps.map (·.2)) as := by
      rw [valsPaired hp]
      exact hr
    refine ⟨_, Reads.dict ho hx.1 hd k1 k2, fun z => ?_⟩
    have z2 : noLists (ps.map (·.2)) = true := by
      rw [← noListK_map]
      simpa [noList] using z
    intro hm
    rcases List.mem_cons.mp hm with q | q
    · rw [← q] at hS
      exact absurd hS (by decide)
    · exact hn z2 q
theorem DDs.reads (I : Inv X pins σ H s) : ∀ {vs : List V} {ds : List PyData} {us : List Value}, DDs X.K H vs ds → Vals vs us → ∃ as, ReadsAll s.heap us ds as ∧ (noLists ds = true → sysModules ∉ as)
  | _, _, _, .nil, r => by
    cases r
    exact ⟨_, ReadsAll.nil, fun _ h => nomatch h⟩
  | _, _, _, .cons h1 h2, r => by
    cases r with
    | cons r1 r2 =>
      obtain ⟨as, q1, n1⟩ := DD.reads I h1 r1
      obtain ⟨bs, q2, n2⟩ := DDs.reads I h2 r2
      refine ⟨_, ReadsAll.cons q1 q2, fun z => ?_⟩
      have z2 := Bool.and_eq_true_iff.mp (by simpa only [noLists] using z)
      intro hm
      rcases List.mem_append.mp hm with q | q
      · exact n1 z2.1 q
      · exact n2 z2.2 q
end
/-! ### repr, ==, isinstance -/
def rRepr (K : PySem.W.Frag) : List V → Hp → VK → Prop := fun xs H Q => ∃ (x : V) (d : PyData), xs = [x] ∧ DD K H x d ∧ d.showable = true ∧ (d.hasDict = true → noList d = true) ∧ d.depth ≤ 40 ∧ d.shown.length ≤ sizeLine ∧ Q (.str d.shown) H
theorem call_repr (hg : X.A.guards = some []) (hu : X.A.units + 64 < cLine) : CallR X (.builtin "repr") (rRepr X.K) := by
  intro pins s σ H xs us Q I r ⟨x, d, ex, hd, hs, hl, hz, hn, q⟩
  subst ex
  cases r with
  | cons rx rr =>
    cases rr
    rename_i u
    obtain ⟨as, hr, hsm⟩ := DD.reads I hd rx
    have fin : ∀ (h' : Heap) (u : Tok) (tk : Nat), (∀ b o, s.heap.get? b = some o → h'.get? b = some o) → EP X pins σ Q (.str d.shown u) { s with heap := h', toks := tk } := fun h' u tk k => ⟨.str d.shown, H, I.kept (t' := tk) k, ⟨_, rfl⟩, q⟩
    cases hd with
    | non => cases rx; exact P.repr_of_none (fin _ _ _ fun _ _ e => e)
    | bl b => cases rx; exact P.repr_of_bool (fin _ _ _ fun _ _ e => e)
    | int i =>
      obtain ⟨t, rfl⟩ := rx
      exact P.repr_of_int (by simpa [PyData.showable] using hs) (fin _ _ _ fun _ _ e => e)
    | str y =>
      obtain ⟨t, rfl⟩ := rx
      exact P.repr_of_str (fin _ _ _ fun _ _ e => e) hn
    | lst h1 h2 => cases rx; exact repr_of_reads' hr hs (fun z => hsm (hl z)) hg (by omega) (fun _ _ e => e) fin hn
    | tup h1 h2 => cases rx; exact repr_of_reads' hr hs (fun z => hsm (hl z)) hg (by omega) (fun _ _ e => e) fin hn
    | dct h1 h2 h3 => cases rx; exact repr_of_reads' hr hs (fun z => hsm (hl z)) hg (by omega) (fun _ _ e => e) fin hn
/-- == of data without dicts -/
def rEqDD (K : PySem.W.Frag) : R2 := fun x y H Q => ∃ d e, DD K H x d ∧ DD K H y e ∧ SeqAt.shaped d = true ∧ SeqAt.shaped e = true ∧ Q (.bl (PyData.eqv d e)) H
def rNeDD (K : PySem.W.Frag) : R2 := fun x y H Q => ∃ d e, DD K H x d ∧ DD K H y e ∧ SeqAt.shaped d = true ∧ SeqAt.shaped e = true ∧ Q (.bl (!PyData.eqv d e)) H
theorem op_eqDD (hu : X.A.units + 64 < cLine) : OpR X (compareOp .Eq) (rEqDD X.K) := by
  intro pins s σ H x y v u Q I rx ry ⟨d, e, hd, he, sd, se, q⟩
  obtain ⟨as, r1, _⟩ := DD.reads I hd rx
  obtain ⟨bs, r2, _⟩ := DD.reads I he ry
  exact SeqAt.compareEq_shaped r1 r2 sd se hu ⟨.bl _, H, I, rfl, q⟩
theorem op_neDD (hu : X.A.units + 64 < cLine) : OpR X (compareOp .NotEq) (rNeDD X.K) := by
  intro pins s σ H x y v u Q I rx ry ⟨d, e, hd, he, sd, se, q⟩
  obtain ⟨as, r1, _⟩ := DD.reads I hd rx
  obtain ⟨bs, r2, _⟩ := DD.reads I he ry
  exact SeqAt.compareNe_shaped r1 r2 sd se hu ⟨.bl _, H, I, rfl, q⟩
end
/-- the built-in type of data -/
def tyD : PyData → String
  | .none => "NoneType"
  | .bool _ => "bool"
  | .int _ => "int"
  | .str _ => "str"
  | .list _ => "list"
  | .tuple _ => "tuple"
  | .dict _ => "dict"
theorem tyX_sqL {K : PySem.W.Frag} {H : Hp} {a : Addr} {xs : List V} (h : SqL K H a xs) : TyX K H (.ref a) (.type "list") := by
  rcases h with (h | ⟨o, h⟩) | ⟨o, _, _, h, hc, _⟩
  · exact .base (.lst h)
  · exact .base (.frz h)
  · exact .kList h hc
theorem tyX_sqT {K : PySem.W.Frag} {H : Hp} {a : Addr} {xs : List V} (h : SqT K H a xs) : TyX K H (.ref a) (.type "tuple") := by
  rcases h with (h | ⟨o, h⟩) | ⟨o, _, _, h, hc, _⟩
  · exact .base (.tup h)
  · exact .fTuple h
  · exact .kTuple h hc
theorem DD.ty {K : PySem.W.Frag} {H : Hp} {v : V} {d : PyData} (h : DD K H v d) : TyX K H v (.type (tyD d)) := by
  cases h with
  | non => exact .base .non
  | bl b => exact .base (.bl b)
  | int i => exact .base (.int i)
  | str x => exact .base (.str x)
  | lst h1 _ => exact tyX_sqL h1
  | tup h1 _ => exact tyX_sqT h1
  | dct h1 _ _ => exact .base (.dK h1)
/-- isinstance(x, T) of data, T one of int, bool, str, tuple, list -/
def isD (T : String) : PyData → Bool
  | .none => false
  | .bool _ => T == "bool" || T == "int"
  | .int _ => T == "int"
  | .str _ => T == "str"
  | .list _ => T == "list"
  | .tuple _ => T == "tuple"
  | .dict _ => T == "dict"
theorem kit_D {K : PySem.W.Frag} (d : PyData) {T : String} (hT : T = "int" ∨ T = "bool" ∨ T = "str" ∨ T = "tuple" ∨ T = "list") : PySem.W.kitOne K (.type (tyD d)) (.type T) = some (isD T d) := by
  rcases hT with h | h | h | h | h <;> subst h <;> cases d <;> simp only [tyD, isD] <;> exact kit_ty (by decide +kernel)
/-- isinstance(x, T) -/
def rIsD (K : PySem.W.Frag) (T : String) : List V → Hp → VK → Prop := fun xs H Q => ∃ (x : V) (d : PyData), xs = [x, .ty T] ∧ DD K H x d ∧ Q (.bl (isD T d)) H
theorem call_isD {X : Cx} {T : String} (hT : T = "int" ∨ T = "bool" ∨ T = "str" ∨ T = "tuple" ∨ T = "list" := by simp) : CallR X (.builtin "isinstance") (rIsD X.K T) := by
  intro pins s σ H xs us Q I r ⟨x, d, ex, hd, q⟩
  exact call_isi pins s σ H xs us Q I r ⟨x, .ty T, .type (tyD d), .type T, isD T d, ex, .ty T, hd.ty, kit_D d hT, q⟩
end Aim

namespace Aim
open PySem PySem.Spec PyProof.Rows L2
open PySem.W (KxsAt kxs_mw)
/-! ### the package's errors: AimError.__init__ says super().__init__(text), then stores the value -/
/-- the text of AimError.__init__ -/
structure IsInit (st : Stmt) : Prop where
  body : ∃ (p1 p2 p3 p4 p5 p6 p7 p8 p9 p10 : Pos) (m : Str) (jj : Nat), defBody st = [.Expr (.Call (.Attribute (.Call (.Name "super" p1) [] [] p2) "__init__" p3) [.Constant (.str m) jj p4] [] p5) p6, .Assign [.Attribute (.Name "self" p7) "value" p8] (.Name "value" p9) p10] ∧
    ∀ env : Env, ∃ pl : Sem Bool, eval (.Call (.Attribute (.Call (.Name "super" p1) [] [] p2) "__init__" p3) [.Constant (.str m) jj p4] [] p5) env = (do
      let ov ← attributeBase (.Call (.Name "super" p1) [] [] p2) "__init__" env (eval (.Call (.Name "super" p1) [] [] p2) env)
      standAt p3.atName
      let (g, first) ← holding [ov] (getMethod ov "__init__" pl)
      callWith p5 g first (backTo p5 (starEach [.Constant (.str m) jj p4] env)) [])
  sc : defScope st = { kind := .function, names := [("self", .local), ("value", .local), ("__class__", .free), ("super", .globalImplicit)], isGenerator := false, isCoroutine := false }
  ps : ∃ (a b : Option Expr) (p1 p2 : Pos), defArgs st = { posonlyargs := [], args := [{ arg := "self", annotation := a, pos := p1 }, { arg := "value", annotation := b, pos := p2 }], vararg := none, kwonlyargs := [], kw_defaults := [], kwarg := none, defaults := [] }
/-- the def as it stands behind the top; D: the class AimError -/
structure AimI (P : Program) (K : PySem.W.Frag) (st : Stmt) (f D : Addr) : Prop where
  txt : IsInit st
  fn : ∃ (oc : Value) (od an : Option Addr) (osl : Array (Option Value)) (kV doc pm ct : Value) (cc cda : Addr) (ccl cl : Value) (cdd cld : Option Addr) (ccs csl : Array (Option Value)) (vs : Array Value) (file : Str) (tf : Tok) (cdD : ClassData),
    K.lookup f = some ⟨oc, od, .func (PySem.W.fnX "__init__" "AimError.__init__" (defArgs st) (defBody st) (defScope st) [("__class__", cc)] .none kV doc pm an (.ref cda) ct), osl⟩ ∧ PySem.W.codeIn K (.ref cda) "AimError.__init__" = true ∧
    K.lookup cda = some ⟨ccl, cdd, .fields vs, ccs⟩ ∧ vs[2]? = some (.str file tf) ∧ ((P.main.file : Str) == file) = true ∧ K.lookup cc = some ⟨cl, cld, .cell (some (.ref D)), csl⟩ ∧ PySem.W.clsIn K D = some cdD
  tI : PySem.W.typeIn K (.ref f) = some (.type "function")
  top : (P.main.scope.names.lookup ("super" : Str)).isSome = false
  third : PySem.W.nsIn K cStatics "thirdparty.any" = some none
/-- an error class of the package at C, below D -/
structure AimC (K : PySem.W.Frag) (f D C : Addr) : Prop extends OexC K C, XfC K C where
  sub : PySem.W.mroIn K C (.ref D) = some true
  sup : PySem.W.ks_superIn K C D "__init__" = some (some (.builtin "ValueError.__init__"))
  ve : PySem.W.subIn K (.ref C) (.type "ValueError") = some true
  nv : PySem.W.findIn K (.ref C) "value" = some none
  ini : PySem.W.findIn K (.ref C) "__init__" = some (some (.ref f))
  own : PySem.W.findIn K (.ref C) "__class__" = some (some (.builtin "object.__class__"))
  get : PySem.W.specialIn K (.builtin "object.__class__") "__get__" = some (some (.builtin "getset_descriptor.__get__"))
  tak : PySem.W.takesIn K (.builtin "object.__class__") = some true
  obj : PySem.W.mroIn K C (.type "object") = some true
section
variable {P : Program} {w : World} {K : PySem.W.Frag} {mg : Str → Option Value} {base : Heap} {A : Around} {E : Value → Shared → Prop} {R : Result → Shared → Prop} {s : Shared} {f e C D t0 : Addr} {u : Value} {st : Stmt}
/-- the bound ValueError.__init__, called -/
theorem call_mw {q : Addr} {rest : List Value} {Q : Value → Shared → Prop} (hC : ∃ nm qn N bs bm sn sub ab col dd k0 k1 k2 k3 k5, s.heap.get? C = some (excClassObj nm qn C N bs bm true sn sub ab col dd k0 k1 k2 k3 k5 "ValueError.__new__"))
    (he : s.heap.get? e = some (HandSPX.excO C t0)) (hq : s.heap.get? q = some (kxs_mw "ValueError.__init__" e)) (hz : rest.length ≤ sizeLine)
    (h : ∀ h', (∀ b o, b ≠ e → s.heap.get? b = some o → h'.get? b = some o) → h'.get? e = some (HandSPX.excO C s.heap.objs.size) → Q .none { s with heap := h' }) : wpAny (model P w) A (call (.ref q) rest) Q E s := by
  obtain ⟨nm, qn, N, bs, bm, sn, sub, ab, col, dd, k0, k1, k2, k3, k5, hC⟩ := hC
  obtain ⟨hh, g, d, tk, os⟩ := s
  refine wpAny_call (codeAny_of_tree ?_)
  show wpAny _ A.in1 (callAny (.ref q) ⟨rest, []⟩) _ _ _
  simp only [callAny]
  refine wpAny_bind (wpAny_load hq ?_)
  simp only [kxs_mw, show (Value.type "method-wrapper" == Value.type "method" || Value.type "method-wrapper" == Value.type "builtin_function_or_method" || Value.type "method-wrapper" == Value.type "method-wrapper") = true by decide, if_true]
  refine PySem.W.KFB.if_so (by decide) (wpAny_bind (PySem.W.check_bound_init F.excBase_ValueError.toExcCallFacts hC he rfl (wpAny_bind (wpAny_pure (wpAny_pure ?_)))))
  refine ⟨plainId_quiet F.excBase_ValueError.init.plain _, codeAny_builtin F.excBase_ValueError.initEntry ?_⟩
  exact PySem.W.exc_init_tree (cls := .ref C) (t0 := t0) (dv := none) (c2 := .none) (c3 := .none) (b4 := .bool false) he hz fun h' k e' _ => h h' k e'
theorem aim_init (M : Mod K mg base) (hbk : ∀ b o, base.get? b = some o → s.heap.get? b = some o) (Z : AimI P K st f D) (c : AimC K f D C) (hsup : mg "super" = none) (hdep : A.depth < recursionLimit) (he : s.heap.get? e = some (HandSPX.excO C t0)) (hbe : base.get? e = none)
    (hR : ∀ h' dx t1 tk, (∀ b o, b ≠ e → s.heap.get? b = some o → h'.get? b = some o) → s.heap.objs.size ≤ dx → dx ≠ e → h'.get? e = some ({ cls := .ref C, dict := some dx, data := .fields #[.ref t1, .none, .none, .none, .bool false, .none] } : Obj) →
      h'.Ns1 dx (fun y => if y = "value" then some u else none) → R (.ok (.ret .none)) ⟨h', s.gens, s.drawn, tk, s.os⟩) : codeAny (model P w) A (.call (.ref f) ⟨[.ref e, u], []⟩) R s := by
  obtain ⟨⟨⟨p1, p2, p3, p4, p5, p6, p7, p8, p9, p10, m, jj, hbody, hev⟩, hsc, ⟨a0, b0, q1, q2, hps⟩⟩, ⟨oc, od, an, osl, kV, doc, pm, ct, cc, cda, ccl, cl, cdd, cld, ccs, csl, vs, file, tf, cdD, lf, hcd, lcd, hvs, hfile, lcc, hD⟩, tI, htop, hthird⟩ := Z
  have X : K.In s.heap := M.kin.keeps hbk
  have lim : s.heap.NoLimit := M.nolimit.keeps hbk
  rw [hbody, hsc, hps] at lf
  obtain ⟨nm, qn, NN, bs, bm, sn, sub, ab, col, dd, k0, k1, k2, k3, k5, lC, hbm⟩ := c.cls
  have hcl : PySem.W.clsIn K C = some { name := nm, bases := bs, mro := .ref C :: bm, ns := NN, qualname := qn, hasDict := true, slotNames := sn, subclasses := sub, abstract := ab, collection := col, hasDel := false } := by unfold PySem.W.clsIn; rw [lC] <;> rfl
  have hloc : ∀ x ∈ [(("self" : Str), Value.ref e), (("value" : Str), u)], List.lookup x.1 [(("self" : Str), NameKind.local), ("value", .local), ("__class__", .free), ("super", .globalImplicit)] = some .local := by
    intro x hx
    rcases List.mem_cons.mp hx with z | hx
    · subst z
      rfl
    · rcases List.mem_cons.mp hx with z | hx
      · subst z
        rfl
      · cases hx
  have hcell : ∀ x ∈ [(("self" : Str), NameKind.local), (("value" : Str), NameKind.local), (("__class__" : Str), NameKind.free), (("super" : Str), NameKind.globalImplicit)], x.2 ≠ .cell := by decide
  refine ks_codeAny_call_defAt (binds := [("self", .ref e), ("value", u)]) hdep (X _ _ lf) rfl lim (PySem.W.codeRec_of X hcd) rfl (.of_eq rfl) (fun x hx => hcell x hx) hloc (fun h0 hns hk0 => ?_)
  have X0 : K.In h0 := X.keeps hk0
  have hb0 : ∀ b o, base.get? b = some o → h0.get? b = some o := fun b o q => hk0 b o (hbk b o q)
  have he0 := hk0 _ _ he
  obtain ⟨oD, hD1, hD2⟩ : ∃ oD, h0.get? D = some oD ∧ oD.data = .cls cdD := by
    unfold PySem.W.clsIn at hD
    split at hD
    · rename_i cx dx cd' sl ho
      cases hD
      exact ⟨_, X0 _ _ ho, rfl⟩
    · cases hD
  obtain ⟨pl, hev⟩ := hev (callEnv (PySem.W.fnX "__init__" "AimError.__init__" { posonlyargs := [], args := [{ arg := "self", annotation := a0, pos := q1 }, { arg := "value", annotation := b0, pos := q2 }], vararg := none, kwonlyargs := [], kw_defaults := [], kwarg := none, defaults := [] }
    [.Expr (.Call (.Attribute (.Call (.Name "super" p1) [] [] p2) "__init__" p3) [.Constant (.str m) jj p4] [] p5) p6, .Assign [.Attribute (.Name "self" p7) "value" p8] (.Name "value" p9) p10]
    { kind := .function, names := [("self", .local), ("value", .local), ("__class__", .free), ("super", .globalImplicit)], isGenerator := false, isCoroutine := false } [("__class__", cc)] .none kV doc pm an (.ref cda) ct) s.heap.objs.size f)
  refine ks_wpAt_execs_cons (ks_wpAt_Expr_any (ks_wpAt_MethodCall (ks_wpAt_super_base rfl rfl rfl rfl (X0 _ _ lf) rfl rfl rfl (X0 _ _ lcd) rfl hvs hfile htop ?_) hev))
  obtain ⟨mb, hmb, hbb⟩ := M.blt
  refine PySem.W.ks_loadName_global rfl rfl (Calls.loadGlobal_builtin (M.glob.keeps hb0) hsup (hmb.keeps hb0) ((hbb "super" (by decide)).trans (by rfl)) ⟨rfl, ?_⟩)
  refine wpAny_loadName_free rfl rfl rfl ⟨_, X0 _ _ lcc, rfl⟩ ?_
  refine wpAny_loadName_local rfl rfl hns rfl ?_
  refine ks_wpAny_isType_cls hD1 hD2 ⟨rfl, ?_⟩
  refine ks_wpAny_call_super hD1 hD2 he0 rfl (fun _ z => by cases z) (PySem.W.looks_mroIn X0 c.sub) (fun h1 hso hk1 => ?_)
  have X1 := X0.keeps hk1
  have he1 := hk1 _ _ he0
  have LI : PySem.W.Looks (model P w) h1 (isInstance (.ref e) (.type "ValueError")) true := by
    have I : PySem.W.InstAt h1 e (HandSPX.excO C t0) C none := ⟨he1, rfl, rfl, trivial⟩
    exact I.type.andThen (PySem.W.looks_subIn X1 c.ve)
  have hne : e ≠ C := by
    intro z
    have y := X1 _ _ lC
    rw [← z, he1] at y
    cases y
  have hsup2 : PySem.W.alongIn K "__init__" (((Value.ref C :: bm).dropWhile (· != .ref D)).drop 1) = some (some (.builtin "ValueError.__init__")) := by
    have y := c.sup
    unfold PySem.W.ks_superIn at y
    rw [hcl] at y
    exact y
  refine PySem.W.kxs_getMethod PySem.W.kxs_ValueError hso (PySem.W.looks_opaque X1 hthird) (l₀ := Value.ref C :: bm) (fun A Q E s k q => wpAny_bind ((PySem.W.looks_clsIn X1 hcl) A _ E s k (wpAny_pure q))) rfl X1 hsup2 LI hne (by decide) ?_
  refine PySem.W.kxs_callWith (i := "ValueError.__init__") (x := e) rfl ?_
  refine Calls.evalArgs_plain ?_
  refine Calls.spliced_cons ?_
  refine Calls.Constant_str (x := m) (k := jj) (pos := p4) ?_
  refine Calls.spliced_nil ?_
  refine ⟨Heap.get?_push_at rfl rfl, ?_⟩
  have X2 : K.In (h1.push (kxs_mw "ValueError.__init__" e)) := X1.keeps fun b o q => Heap.get?_push_of_some _ q
  refine call_mw ⟨_, _, _, _, _, _, _, _, _, _, _, _, _, _, _, X2 _ _ lC⟩ (Heap.get?_push_of_some _ he1) (Heap.get?_push_at rfl rfl) (by show 1 ≤ sizeLine; decide) (fun h2 hk2 he2 => ?_)
  have kk : ∀ b o, b ≠ e → h0.get? b = some o → h2.get? b = some o := fun b o hb q => hk2 b o hb (Heap.get?_push_of_some _ (hk1 b o q))
  have nF : s.heap.objs.size ≠ e := (Nat.ne_of_lt (Heap.lt_size he)).symm
  have X3 : K.In h2 := fun a o q => by
    by_cases z : a = e
    · rw [z] at q
      have y := M.kin _ _ q
      rw [hbe] at y
      cases y
    · exact kk a o z (X0 a o q)
  have hns2 : h2.Ns s.heap.objs.size (fun x => ([(("self" : Str), Value.ref e), (("value" : Str), u)] : List (Str × Value)).reverse.lookup x) := by
    obtain ⟨o, es, ep, ho, r⟩ := hns
    exact ⟨o, es, ep, kk _ _ nF ho, r⟩
  refine wpAt_of_wpAny (wpAny_execs_cons (plainObj_wpAny_Assign_Attribute (wpAny_Name (wpAny_loadName_local rfl rfl hns2 rfl (wpAny_Name (wpAny_loadName_local rfl rfl hns2 rfl ?_))))))
  refine PySem.W.set_plain X3 (od := none) ⟨he2, rfl, rfl, trivial⟩ c.sa ?_
  have big : s.heap.objs.size ≤ h2.objs.size := by
    obtain ⟨o, es, ep, ho, _⟩ := hns2
    exact Nat.le_of_lt (Heap.lt_size ho)
  refine HandSPX.exc_osa X3 he2 hcl (show HandSPX.refsVE (.ref C :: bm) = true from hbm) rfl c.nv (fun h' tk' dx k dn dne hx hn => ?_)
  refine wpAny_execs_nil ?_
  exact hR h' dx _ tk' (fun b o hb q => k b o hb (kk b o hb (hk0 b o q))) (Nat.le_trans big dn) dne hx hn
end
end Aim

namespace Aim
open PySem PySem.Spec PyProof.Rows L2
/-- an error object of the class cls, its dict at d, at a -/
def XcV (cls : Value) (d : Option Addr) (a : Addr) : HO := .ext fun h => ∃ (oe : Obj) (vs : Array Value), h.get? a = some oe ∧ Zc cls d oe ∧ oe.data = .fields vs
theorem XcV.ok {P : Program} {w : World} {H : Hp} {h : Heap} {a : Addr} {cls : Value} {d : Option Addr} {oe : Obj} {vs : Array Value} (e : h.get? a = some oe) (z : Zc cls d oe) (q : oe.data = .fields vs) : ObjOk P w H h a (XcV cls d a) :=
  ⟨⟨oe, vs, e, z, q⟩, ⟨oe, e⟩, fun _ _ ⟨o, v, x, y⟩ k => ⟨o, v, k o x, y⟩⟩
theorem XcV.at {P : Program} {w : World} {H : Hp} {h : Heap} {a : Addr} {cls : Value} {d : Option Addr} (hok : HOk P w H h) (e : H a = some (XcV cls d a)) : ∃ (oe : Obj) (vs : Array Value), h.get? a = some oe ∧ Zc cls d oe ∧ oe.data = .fields vs := by
  obtain ⟨x, _, _⟩ := (show ObjOk P w H h a (XcV cls d a) from hok a _ e)
  exact x
theorem xcv_np {cls : Value} {d : Option Addr} {n : Nat} {a : Addr} : XcV cls d a ≠ PotO n a := fun z => by
  unfold XcV PotO at z
  injection z with z
  -- a heap with a pot at a bears no error there
  obtain ⟨h, hh⟩ : ∃ h : Heap, h.get? a = some { cls := .type "list", data := .seq #[.int 0 0, .int 0 0, .int 0 0] 0 } := ⟨⟨Array.replicate (a + 1) { cls := .type "list", data := .seq #[.int 0 0, .int 0 0, .int 0 0] 0 }, {}⟩, by simp [Heap.get?]⟩
  have y := congrFun z h
  have q : ∃ (oe : Obj) (vs : Array Value), h.get? a = some oe ∧ Zc cls d oe ∧ oe.data = .fields vs := by
    rw [y]
    exact ⟨0, 0, 0, 0, 0, 0, 0, hh, ⟨by omega, by decide, by decide, by omega, by omega⟩⟩
  obtain ⟨oe, vs, e1, _, e2⟩ := q
  rw [hh] at e1
  cases e1
  cases e2
section
variable {X : Cx} {pins : List (Addr × Obj)} {σ : L2.St} {H : Hp} {s : Shared}
/-- an object that nobody tracks is tracked from now on -/
theorem track {a : Addr} {o : HO} (I : Inv X pins σ H s) (na : H a = none) (n0 : X.s_0.heap.get? a = none) (nL : a ≠ X.env.locals) (nc : ∀ x c, X.env.cells.lookup x = some c → c ≠ a) (np : ∀ p ∈ X.pn ++ pins, p.1 ≠ a)
    (new : ObjOk X.prog X.w (upd H a o) s.heap a o) : Inv X pins σ (upd H a o) s := by
  have st : ∀ {b : Addr} {u : HO}, H b = some u → upd H a o b = some u := fun {b u} e => by
    rw [upd_ne (ne_of_none e na)]
    exact e
  refine ⟨I.ok, I.os, I.bare, ⟨I.base.keep, I.base.slot, fun b u e n x => ?_, I.base.there, fun b xs e => st (I.base.tups b xs e), fun b q u e => st (I.base.frzs b q u e), fun b ps e => ?_⟩, I.loc, I.cell, ?_, fun x c e => ?_, fun p hp => ?_, fun b u e => ?_, I.len⟩
  · rw [upd_ne (fun z => by rw [z, n0] at e; cases e)]
    exact I.base.free b u e n x
  · obtain ⟨m, q⟩ := I.base.tbls b ps e
    exact ⟨m, st q⟩
  · rw [upd_ne nL.symm]
    exact I.free
  · rw [upd_ne (nc x c e)]
    exact I.freeC x c e
  · obtain ⟨e, n, r⟩ := I.pin p hp
    exact ⟨e, by rw [upd_ne (np p hp)]; exact n, r⟩
  · by_cases hb : b = a
    · subst hb
      rw [upd_same] at e
      cases e
      exact new
    · rw [upd_ne hb] at e
      exact (I.hok b u e).stay (fun _ _ _ q => q) (fun _ q => st q) fun _ _ q => st q
end
/-! ### the errors of the package made: raised, and as values -/
section
variable {X : Cx} {x : Str} {f C D : Addr} {st : Stmt} {e : Expr} {te : TE} {p pos : Pos}
theorem made_aim {pins : List (Addr × Obj)} {σ : L2.St} {H : Hp} {s : Shared} {v : V} {u : Value} {Q : Value → Shared → Prop} (Z : AimI X.prog X.K st f D) (c : AimC X.K f D C) (hsup : X.mg "super" = none) (hr : Room 1 X.A) (I : Inv X pins σ H s) (rv : RelV v u)
    (h : ∀ (a dx t1 : Addr) (h' : Heap) (tk : Nat), H a = none → H dx = none → dx ≠ a → s.heap.get? a = none → (∀ b o, s.heap.get? b = some o → h'.get? b = some o) → s.heap.objs.size ≤ a → s.heap.objs.size ≤ dx →
      h'.get? a = some ({ cls := .ref C, dict := some dx, data := .fields #[.ref t1, .none, .none, .none, .bool false, .none] } : Obj) → (∀ (G : Hp) (g : Heap), (∀ o, h'.get? dx = some o → g.get? dx = some o) → ObjOk X.prog X.w G g dx (.xd [("value", v)])) → Q (.ref a) { s with heap := h', toks := tk }) :
    wpAny (model X.prog X.w) X.A (call (.ref C) [u]) Q X.xe s := by
  obtain ⟨nm, q, N, bs, bm, sn, sub, ab, col, dd, k0, k1, k2, k3, k5, hC, hbm⟩ := c.cls
  obtain ⟨hp, g, dr, tk, os⟩ := s
  have kk : ∀ b o, hp.get? b = some o → ((hp.push (PySem.W.kdv_tup [u])).push (HandSPX.excO C hp.objs.size)).get? b = some o := fun b o e => Heap.get?_push_of_some _ (Heap.get?_push_of_some _ e)
  have hget : ((hp.push (PySem.W.kdv_tup [u])).push (HandSPX.excO C hp.objs.size)).get? (hp.objs.size + 1) = some (HandSPX.excO C hp.objs.size) := by heap_get
  have hsz : hp.objs.size ≤ hp.objs.size + 1 := Nat.le_succ _
  have gone : hp.get? (hp.objs.size + 1) = none := by
    cases z : hp.get? (hp.objs.size + 1) with
    | none => rfl
    | some o => exact absurd (Nat.lt_of_lt_of_le (Heap.lt_size z) hsz) (Nat.lt_irrefl _)
  have bn : X.base.get? (hp.objs.size + 1) = none := by
    cases z : X.base.get? (hp.objs.size + 1) with
    | none => rfl
    | some o =>
      have y := I.bk _ _ z
      rw [gone] at y
      cases y
  refine wpAny_call (HandSPX.call_own F.excBase_ValueError (fun Y => HandSPX.refsVE_contains Y bm hbm) (I.kIn _ _ hC) (PySem.W.looks_findIn I.kIn c.ini) (fun self => PySem.W.bind_fn I.kIn self Z.tI) (by show 1 ≤ sizeLine; decide) ?_)
  refine aim_init (mg := X.mg) (base := X.base) (t0 := hp.objs.size) I.mod (fun b o q => kk b o (I.bk b o q)) Z c hsup ?_ hget bn (fun h' dx t1 tk' k hd hne hx hn => ⟨rfl, ?_⟩)
  · have y := hr.dp
    rw [make_depth]
    omega
  have ksz : hp.objs.size ≤ ((hp.push (PySem.W.kdv_tup [u])).push (HandSPX.excO C hp.objs.size)).objs.size := by
    rw [Heap.size_push, Heap.size_push]
    omega
  have hd2 : hp.objs.size ≤ dx := Nat.le_trans ksz hd
  refine h (hp.objs.size + 1) dx t1 h' tk' (I.hok.fresh hsz) (I.hok.fresh hd2) hne gone (fun b o q => k b o (fun z => by rw [z, gone] at q; cases q) (kk b o q)) hsz hd2 hx (fun G g' hg => ?_)
  exact ⟨_, hn.at hg, relO_put (fs := []) rv fun _ => True.intro⟩
/-- C(e), to be raised -/
def tMkA (C : Addr) (te : TE) : L2.St → Hp → XK → Prop := fun σ H Q => te σ H fun v H1 => ∀ d, H1 d = none → Q (.ref C) (some d) (upd H1 d (.xd [("value", v)]))
theorem pmk_aim (Z : AimI X.prog X.K st f D) (c : AimC X.K f D C) (hsup : X.mg "super" = none) (hr : Room 1 X.A) (hg : Gl X x) (hm : X.mg x = some (.ref C)) (he : PE X e te)
    (hdb : (x == ("__debug__" : Str)) = false := by decide) (hs : starEach [e] X.env = (false, eval e X.env) :: starEach [] X.env := by rfl) : PMk X (.Call (.Name x p) [e] [] pos) (tMkA C te) := by
  intro pins s σ H Q I h
  refine wpAny_Call_Name_kw (ld_glob I hg hm ?_ hdb)
  refine PySem.W.callWith_K (h₀ := X.base) I.ok.mod.kin c.kC ?_ hs (by rfl)
  rw [hs]
  refine Calls.spliced_cons (thn (he.run pins s σ H _ I h) fun u s1 ⟨v, H1, I1, rv, q1⟩ => ?_)
  refine Calls.spliced_nil ⟨I1.kIn, ?_⟩
  refine made_aim Z c hsup hr I1 rv fun a dx t1 h' tk na nd ne ga k hsz hsd hx hxd => ?_
  obtain ⟨G, g1, g2⟩ := restrict h' fun b => decide (b ≠ a)
  have gk : ∀ b, b ≠ a → G.get? b = h'.get? b := fun b hb => g1 b (decide_eq_true hb)
  have ge : G.get? a = none := g2 a (by simp)
  have J := I1.laid (t' := tk) (a := dx) (o := .xd [("value", v)]) (h' := G) (fun b o q => by rw [gk b (fun z => by rw [z, ga] at q; cases q)]; exact k b o q) hsd (hxd _ G fun o q => by rw [gk dx ne]; exact q)
  refine ⟨a, _, _, _, _, .ref C, some dx, rfl, J, fun b o q => ?_, ge, hx, ⟨rfl, rfl⟩, rfl, rfl, ?_, rfl, I1.bare, raises_own c.toOexC.exC c.tyC, q1 dx nd⟩
  · by_cases hb : b = a
    · rw [hb, ge] at q
      cases q
    · rw [← gk b hb]
      exact q
  · rw [upd_ne ne.symm]
    exact na
/-- C(e) as a value -/
def tAimV (C : Addr) (te : TE) : TE := fun σ H Q => te σ H fun v H1 => ∀ a d, H1 a = none → H1 d = none → d ≠ a → Q (.ref a) (upd (upd H1 d (.xd [("value", v)])) a (XcV (.ref C) (some d) a))
theorem pe_aim (Z : AimI X.prog X.K st f D) (c : AimC X.K f D C) (hsup : X.mg "super" = none) (hr : Room 1 X.A) (hg : Gl X x) (hm : X.mg x = some (.ref C)) (he : PE X e te)
    (hdb : (x == ("__debug__" : Str)) = false := by decide) (hs : starEach [e] X.env = (false, eval e X.env) :: starEach [] X.env := by rfl) : PE X (.Call (.Name x p) [e] [] pos) (tAimV C te) := by
  refine ⟨fun pins s σ H Q I h => ?_⟩
  refine wpAny_Call_Name_kw (ld_glob I hg hm ?_ hdb)
  refine PySem.W.callWith_K (h₀ := X.base) I.ok.mod.kin c.kC ?_ hs (by rfl)
  rw [hs]
  refine Calls.spliced_cons (thn (he.run pins s σ H _ I h) fun u s1 ⟨v, H1, I1, rv, q1⟩ => ?_)
  refine Calls.spliced_nil ⟨I1.kIn, ?_⟩
  refine made_aim Z c hsup hr I1 rv fun a dx t1 h' tk na nd ne ga k hsz hsd hx hxd => ?_
  obtain ⟨G, g1, g2⟩ := restrict h' fun b => decide (b ≠ a)
  have gk : ∀ b, b ≠ a → G.get? b = h'.get? b := fun b hb => g1 b (decide_eq_true hb)
  have ge : G.get? a = none := g2 a (by simp)
  have J := I1.laid (t' := tk) (a := dx) (o := .xd [("value", v)]) (h' := G) (fun b o q => by rw [gk b (fun z => by rw [z, ga] at q; cases q)]; exact k b o q) hsd (hxd _ G fun o q => by rw [gk dx ne]; exact q)
  have na2 : upd H1 dx (.xd [("value", v)]) a = none := by
    rw [upd_ne ne.symm]
    exact na
  have kG : ∀ b o, G.get? b = some o → h'.get? b = some o := fun b o q => by
    by_cases hb : b = a
    · rw [hb, ge] at q
      cases q
    · rw [← gk b hb]
      exact q
  exact ⟨.ref a, _, J.laidN (t' := tk) (h' := h') kG ge na2 (XcV.ok hx ⟨rfl, rfl⟩ rfl), rfl, q1 a dx na nd ne⟩
end
/-! ### try: .. except x as n: .., the error's object known behind the suite -/
/-- what the clause wishes of an error of the body -/
def wKeep (K : PySem.W.Frag) (c : Value) (n i : Nat) (ts : Addr → TS) (Wout : WX) (D : Ends) : WX := fun cls d σ H =>
  ∃ b, PySem.W.exmOne K cls c = some b ∧ (b = true → ∀ a, H a = none → σ.length = n → ts a { nx := fun σ' H' => D.nx (σ'.set i none) (upd H' a (XcV cls d a)), rt := fun _ _ => False } (σ.set i (some (.ref a))) H) ∧ (b = false → Wout cls d σ H)
section
variable {X : Cx} {x n : Str} {c : Value} {i : Nat} {body suite : List Stmt} {b0 : Stmt} {np pos pos' : Pos} {tb : WX → TS} {ts : Addr → TS} {Wout : WX}
theorem ps_try_keep (hs : X.stack = X.env :: X.outer) (hf : X.env.frame = some X.env.locals) (hex : X.ex = []) (hN : X.N.Nodup) (hi : X.N[i]? = some n) (hln : X.env.kindOf n = some .local) (hc : Gl X x) (hmx : X.mg x = some c) (hxd : (x == ("__debug__" : Str)) = false) (tk : Takes X Wout)
    (hb : ∀ (W : WX) (pn : List (Addr × Obj)) (xe : Value → Shared → Prop), Takes (X.tr pn xe) W → PassesOwn (model X.prog X.w) X.A X.env xe → PSs (X.tr pn xe) body (tb W))
    (hsu : ∀ (a : Addr) (oe : Obj) (pn : List (Addr × Obj)), PSs (X.suite a ((a, oe) :: pn)) (b0 :: suite) (ts a)) :
    PS X (.Try body [.ExceptHandler (some (.Name x np)) (some n) (b0 :: suite) pos'] [] [] pos) (fun D σ H => tb (wKeep X.K c X.N.length i ts Wout D) D σ H) := by
  constructor
  intro pins s σ H D I h
  have ok := I.ok
  have frA : X.A.frames = some (X.env :: X.outer) := by rw [ok.frames, hs]
  refine wpAny_Try_except ?_
  have run := (hb (wKeep X.K c X.N.length i ts Wout D) (X.pn ++ pins) (fun e s1 => wpAny (model X.prog X.w) X.A (noteFrame e X.env) (fun _ s2 => wpAny (model X.prog X.w) X.A (setFlight e none) (fun _ s3 =>
    wpAny (model X.prog X.w) X.A (handleBy e X.env [.ExceptHandler (some (.Name x np)) (some n) (b0 :: suite) pos']) (SP X pins D) X.xe s3) X.xe s2) X.xe s1) ?_ PassesOwn.looking).run [] s σ H D (I.toTry _) h
  · refine wpAny_mono run (fun f s1 hsp => ?_) fun _ _ he => he
    rcases f with _ | _ | _ | u
    all_goals first
      | (obtain ⟨σ', H', J', q⟩ := hsp; exact wpAny_execs_nil ⟨σ', H', J'.ofTry ok, q⟩)
      | (obtain ⟨σ', H', J', q⟩ := hsp; exact ⟨σ', H', J'.ofTry ok, q⟩)
      | (obtain ⟨v, σ', H', J', r, q⟩ := hsp; exact ⟨v, σ', H', J'.ofTry ok, r, q⟩)
  · -- an error of the body
    rintro u s' ⟨a, B, sI, pins', σ', H', cls, d, rfl, J', nb, up, sky, na, os, ag, b, hb1, hyes, hno⟩
    have J : Inv X pins σ' H' sI := J'.ofTry ok
    rw [show (X.tr (X.pn ++ pins) _).stack = X.env :: X.outer from hs] at sky
    refine Sky.land Zc.steady frA hf sky fun h3 fl3 up3 => ?_
    have J3 : Inv X pins σ' H' { s' with heap := h3 } := J.landed nb fl3.1 (up.trans up3) os ag
    obtain ⟨oe3, vs3, he3, hz3, hd3⟩ := fl3.there
    have nfr : a ∉ frs (X.env :: X.outer) := fun hm => by
      obtain ⟨_, o', e', hnf⟩ := fl3.2.2.1.mem hm
      rw [he3] at e'
      cases e'
      exact hnf _ hd3
    have nL : a ≠ X.env.locals := fun z => nfr (List.mem_filterMap.mpr ⟨X.env, List.mem_cons_self, by rw [hf, z]⟩)
    have nF : a ∉ X.fs := fun hm => by
      obtain ⟨e, he, q⟩ := List.mem_filterMap.mp hm
      exact nfr (List.mem_filterMap.mpr ⟨e, List.mem_cons_of_mem _ he, q⟩)
    -- the object is none of those ahead
    have nI : sI.heap.get? a = none := by
      cases z : sI.heap.get? a with
      | none => rfl
      | some o =>
        have y := nb a o z (by rw [show (X.tr (X.pn ++ pins) _).stack = X.env :: X.outer from hs]; exact nfr)
        rw [fl3.2.1] at y
        cases y
    have n0 : X.s_0.heap.get? a = none := by
      cases z : X.s_0.heap.get? a with
      | none => rfl
      | some o =>
        obtain ⟨o', y⟩ := J.base.there a o z (by rw [hex]; exact fun z => nomatch z)
        rw [nI] at y
        cases y
    have np' : ∀ p ∈ X.pn ++ pins, p.1 ≠ a := fun p hp z => by
      obtain ⟨y, _⟩ := J.pin p hp
      rw [z, nI] at y
      cases y
    have S3 := J3.suite he3 hd3 na nL nF
    refine wpAny_handleBy_cons (codeAny_handlers_test ?_) (by intro q; cases q)
    have LT : PySem.W.Looks (model X.prog X.w) h3 (typeOf (.ref a)) cls := fun A Q E s k q => wpAny_typeOf_ref (k _ _ he3) (by rw [hz3.1]; exact q)
    have LM := PySem.W.exm_one (M := model X.prog X.w) J3.kIn LT hb1
    refine ld_glob (X := X.suite a ((a, oe3) :: (X.pn ++ pins))) S3 hc hmx (LM.here ?_) hxd
    cases b with
    | true =>
      refine codeAny_handlers_suite_as (HandSPX.lands_againZ fl3 fun h4 fl4 up4 => ?_)
      have J4 : Inv X pins σ' H' { s' with heap := h4 } := J.landed nb fl4.1 ((up.trans up3).trans up4) os ag
      obtain ⟨oe4, vs4, he4, hz4, hd4⟩ := fl4.there
      refine store_ok (X := X.suite a ((a, oe4) :: (X.pn ++ pins))) (v := .ref a) (J4.suite he4 hd4 na nL nF) hN hi (.inl hln) rfl (fun s5 S5 => ?_) (.inr hln)
      refine wpAny_mono ((hsu a oe4 (X.pn ++ pins)).run [] s5 _ H' _ S5 (hyes rfl a na J.len)) (fun f s6 hsp => ?_) fun _ _ z => False.elim z
      rcases f with _ | _ | _ | u
      · obtain ⟨σ6, H6, S6, q6⟩ := hsp
        obtain ⟨p1, p2, _⟩ := S6.pin (a, oe4) (List.mem_append_left _ List.mem_cons_self)
        have T6 := track (o := XcV cls d a) (S6.unsuite ok) p2 n0 nL (fun y cy e z => by
          obtain ⟨vc, oc, o1, o2⟩ := S6.cell y cy e
          rw [z] at o1
          have e1 : s6.heap.get? a = some oe4 := p1
          rw [e1] at o1
          cases o1
          rw [hd4] at o2
          cases o2) np' (XcV.ok (show s6.heap.get? a = some oe4 from p1) hz4 hd4)
        exact gone_ok T6 hN hi hln fun s7 J7 => ⟨_, _, J7, q6⟩
      · obtain ⟨_, _, _, q⟩ := hsp
        exact False.elim q
      · obtain ⟨_, _, _, q⟩ := hsp
        exact False.elim q
      · obtain ⟨_, _, _, _, _, q⟩ := hsp
        exact False.elim q
    | false =>
      refine wpAny_handleBy_nil ?_
      obtain ⟨k1, k2, k3, oe, vs, T, oT, ts', he, hz, hd, h1, hr⟩ := id fl3
      unfold PySem.passOn
      refine wpAny_bind (wpAny_field he hd h1 ?_)
      rw [if_neg (show ¬ ((Value.ref T == Value.none) = true) from by simp)]
      refine wpAny_bind ?_
      rw [hf]
      refine HandSPX.setFlight_upZ fl3 fun h4 hh4 up4 => wpAny_throw (tk _ _ ?_)
      exact ⟨a, B, sI, pins, σ', H', cls, d, rfl, J, nb, (up.trans up3).trans up4, .inr (.inr (by rw [hs]; exact hh4)), na, os, ag, hno rfl⟩
end
/-! ### an error object asked -/
section
variable {X : Cx}
/-- e.value -/
def tXcv (K : PySem.W.Frag) (te : TE) : TE := fun σ H Q => te σ H fun x H1 => ∃ (a C d f D : Addr) (v : V), x = .ref a ∧ H1 a = some (XcV (.ref C) (some d) a) ∧ AimC K f D C ∧ H1 d = some (.xd [("value", v)]) ∧ Q v H1
theorem pe_xcv {e : Expr} {te : TE} {pos : Pos} (he : PE X e te) (hb : attributeBase e "value" X.env (eval e X.env) = eval e X.env := by rfl) : PE X (.Attribute e "value" pos) (tXcv X.K te) := by
  refine ⟨fun pins s σ H Q I h => attr_of hb (thn (he.run pins s σ H _ I h) fun u s1 ⟨x, H1, I1, rx, a, C, d, f, D, v, ex, ha, c, hd, q⟩ => ?_)⟩
  subst ex
  obtain rfl : u = Value.ref a := rx
  obtain ⟨oe, vs, hg, hz, hv⟩ := XcV.at I1.hok ha
  obtain ⟨mA, hns, hr⟩ := (show ObjOk X.prog X.w H1 s1.heap d (.xd [("value", v)]) from I1.hok d _ hd)
  obtain ⟨od, ho, hl⟩ := lookIn_ns hns
  obtain ⟨w, hw, rw'⟩ := RelO.some_of (v := v) (o := mA "value") (by have z := hr "value"; simpa [List.lookup] using z)
  have J : PySem.W.InstAt s1.heap a oe C (some od) := ⟨hg, hz.1, by unfold PySem.W.notCls; rw [hv] <;> rfl, by rw [hz.2]; exact ho⟩
  exact HandSPX.exc_get I1.kIn J c.ga c.gg c.toXfC.exC (PySem.W.findObj_own c.hdC c.nv rfl (by rw [hl, hw])) (handed_of rw') ⟨v, H1, I1.tok _, rw', q⟩
/-- isinstance(e, C) -/
def rIsX (K : PySem.W.Frag) : List V → Hp → VK → Prop := fun xs H Q => ∃ (a C f D : Addr) (d : Option Addr) (k : V) (kv : Value) (b : Bool), xs = [.ref a, k] ∧ H a = some (XcV (.ref C) d a) ∧ AimC K f D C ∧ (∃ dd fs, d = some dd ∧ H dd = some (.xd fs)) ∧ ClsV k kv ∧ PySem.W.kitOne K (.ref C) kv = some b ∧ Q (.bl b) H
theorem call_isX : CallR X (.builtin "isinstance") (rIsX X.K) := by
  intro pins s σ H xs us Q I r ⟨a, C, f, D, d, k, kv, b, ex, ha, c, ⟨dd, fs, ed, hdd⟩, hk, e, q⟩
  subst ex
  subst ed
  obtain ⟨u1, u2, rfl, r1, r2⟩ := vals2 r
  obtain rfl : u1 = Value.ref a := r1
  have e2 := hk.eq r2
  subst e2
  obtain ⟨oe, vs, hg, hz, hv⟩ := XcV.at I.hok ha
  obtain ⟨mA, hns, _⟩ := (show ObjOk X.prog X.w H s.heap dd (.xd fs) from I.hok dd _ hdd)
  obtain ⟨od, ho, _⟩ := lookIn_ns hns
  have J : PySem.W.InstAt s.heap a oe C (some od) := ⟨hg, hz.1, by unfold PySem.W.notCls; rw [hv] <;> rfl, by rw [hz.2]; exact ho⟩
  have hcl : (PySem.W.clsIn X.K C).isSome = true := by
    obtain ⟨cd, hc, _⟩ := PySem.W.any_some c.hdC
    rw [hc]
    rfl
  exact PySem.W.kia_one (PySem.W.kitx_exc hcl c.ga c.gg c.toXfC.exC c.own c.get c.tak c.obj) I.kIn J e (fun z => nomatch z) fun tk => ⟨.bl b, H, I.tok tk, rfl, q⟩
end
end Aim

namespace Aim
open PySem PySem.Spec PyProof.Rows L2
/-! ### a def's promise that may ask that no repr runs around it (G) -/
structure Rn (P : Program) (w : World) (K : PySem.W.Frag) (mg : Str → Option Value) (base : Heap) (G : Bool) (k : Nat) (f : Addr) (fd : FuncData) (ps : List Str) (sp : Sp) : Prop where
  len : ∀ vs H Q E, sp vs H Q E → vs.length = ps.length
  run : ∀ {A : Around} {fr : List Env} {s : Shared} {H : Hp} {args : Args} {us : List Value} {vs : List V} {Q : VK} {E : XK}, Room k A → (G = true → A.guards = some []) → Env0 P w K mg base A fr s H → BindsTo s fd args (ps.zip us) → Vals vs us → sp vs H Q E →
    codeAny (model P w) A (.call (.ref f) args) (CR (L2.CX P w) fr P w H s Q E) s
/-- a def of the module under its name, all its parameters given by position -/
structure Df (P : Program) (w : World) (K : PySem.W.Frag) (mg : Str → Option Value) (base : Heap) (G : Bool) (k : Nat) (x : Str) (sp : Sp) : Prop where
  ex : ∃ (f : Addr) (fd : FuncData) (ps : List Str), Rn P w K mg base G k f fd ps sp ∧ mg x = some (.ref f) ∧ PySem.W.keepIn K (.ref f) = true ∧ L2.Binds K fd ps []
section
variable {P : Program} {w : World} {K : PySem.W.Frag} {mg : Str → Option Value} {base : Heap} {G : Bool}
theorem Df.mono {k j : Nat} {x : Str} {sp : Sp} (d : Df P w K mg base G k x sp) (h : k ≤ j) : Df P w K mg base G j x sp := by
  obtain ⟨f, fd, ps, F, r⟩ := d.ex
  exact ⟨f, fd, ps, ⟨F.len, fun hr => F.run (hr.mono h)⟩, r⟩
theorem Df.imp {k : Nat} {x : Str} {sp sp' : Sp} (d : Df P w K mg base G k x sp) (h : ∀ vs H Q E, sp' vs H Q E → sp vs H Q E) : Df P w K mg base G k x sp' := by
  obtain ⟨f, fd, ps, F, r⟩ := d.ex
  exact ⟨f, fd, ps, ⟨fun vs H Q E q => F.len vs H Q E (h _ _ _ _ q), fun hr hg e b v q => F.run hr hg e b v (h _ _ _ _ q)⟩, r⟩
/-- a def's promise, by its body: where it may raise -/
theorem df_okX {x : Str} {st : Stmt} {f : Addr} {fd : FuncData} {N ps : List Str} {k : Nat} {sp : Sp} (F : L2.Fun K x x st f fd) (hm : mg x = some (.ref f)) (hb : L2.Binds K fd ps []) (S : FnScope N ps (defScope st)) (len : ∀ vs H Q E, sp vs H Q E → vs.length = ps.length)
    (body : ∀ (cdv : Value) (A : Around) (outer : List Env) (s : Shared) (H : Hp) (vs : List V) (Q : VK) (E : XK), Room k (A.deeper (envOfC x (defScope st) s.heap.objs.size f cdv)) → (G = true → A.guards = some []) → sp vs H Q E →
      ∃ t, PSs (cxOf (L2.CX P w) P w K mg base N x (defScope st) f cdv A outer s H E) (defBody st) t ∧ t { nx := fun _ H' => Q .non H', rt := Q } (start N vs) H) : Df P w K mg base G (k + 1) x sp := by
  obtain ⟨oc, od, kV, doc, pm, an, cdv, ct, osl, rfl, lk, hcd⟩ := F.ex
  refine ⟨f, _, ps, ⟨len, fun hr hg e0 b r q => LamX.run_ofS lk hcd S hr e0 b r (len _ _ _ _ q) fun hr' => body cdv _ _ _ _ _ _ _ hr' hg q⟩, hm, F.kp, hb⟩
/-- .. where nothing is raised -/
theorem df_ok {x : Str} {st : Stmt} {f : Addr} {fd : FuncData} {N ps : List Str} {k : Nat} {sp : Sp} (F : L2.Fun K x x st f fd) (hm : mg x = some (.ref f)) (hb : L2.Binds K fd ps []) (S : FnScope N ps (defScope st)) (len : ∀ vs H Q E, sp vs H Q E → vs.length = ps.length)
    (body : ∀ (cdv : Value) (A : Around) (outer : List Env) (s : Shared) (H : Hp) (vs : List V) (Q : VK) (E : XK), Room k (A.deeper (envOfC x (defScope st) s.heap.objs.size f cdv)) → (G = true → A.guards = some []) → sp vs H Q E →
      ∃ t, PSs (cxOf (L2.CX P w) P w K mg base N x (defScope st) f cdv A outer s H E).nox (defBody st) t ∧ t { nx := fun _ H' => Q .non H', rt := Q } (start N vs) H) : Df P w K mg base G (k + 1) x sp :=
  df_okX F hm hb S len fun cdv A outer s H vs Q E hr hg q => by
    obtain ⟨t, h, z⟩ := body cdv A outer s H vs Q E hr hg q
    exact ⟨t, h.nox, z⟩
end
/-! ### a call that is not told of some objects -/
/-- what may be hidden: a list, a dict, a thing told by itself -/
def Hides : HO → Prop
  | .lst _ => True
  | .dK _ => True
  | .ext _ => True
  | _ => False
/-- without what stands in hid; with it again -/
def cut (hid : List Addr) (H : Hp) : Hp := fun b => if b ∈ hid then none else H b
def glue (hid : List Addr) (H H' : Hp) : Hp := fun b => if b ∈ hid then H b else H' b
section
variable {P : Program} {w : World} {H H' : Hp} {h h' : Heap} {hid : List Addr} {b : Addr} {o : HO}
theorem cut_out (n : b ∉ hid) : cut hid H b = H b := if_neg n
theorem cut_in (n : b ∈ hid) : cut hid H b = none := if_pos n
theorem glue_out (n : b ∉ hid) : glue hid H H' b = H' b := if_neg n
theorem glue_in (n : b ∈ hid) : glue hid H H' b = H b := if_pos n
theorem cut_some {u : HO} (e : cut hid H b = some u) : b ∉ hid ∧ H b = some u := by
  by_cases n : b ∈ hid
  · rw [cut_in n] at e
    cases e
  · rw [cut_out n] at e
    exact ⟨n, e⟩
/-- an object's description, told beside other ones -/
theorem ok_beside (x : ObjOk P w H h b o) (ho : ∀ c, H c = some (.own b) → H' c = some (.own b)) (ht : ∀ c xs, H c = some (.tup xs) → H' c = some (.tup xs)) : ObjOk P w H' h b o :=
  x.stay (fun _ _ _ e => e) ho ht
theorem ok_hidden (m : Hides o) (x : ObjOk P w H h b o) (k : ∀ u, h.get? b = some u → h'.get? b = some u) : ObjOk P w H' h' b o := by
  cases o with
  | lst xs =>
    obtain ⟨z, its, n, r, e⟩ := x
    exact ⟨z, its, n, r, k _ e⟩
  | dK kvs =>
    obtain ⟨z, y, vs, r, u, es, ep, e, q⟩ := x
    exact ⟨z, y, vs, r, u, es, ep, k _ e, q⟩
  | ext φ =>
    obtain ⟨p, ⟨u, e⟩, q⟩ := x
    exact ⟨q _ _ p k, ⟨u, k _ e⟩, q⟩
  | _ => exact m.elim
theorem hides_there (m : Hides o) (x : ObjOk P w H h b o) : ∃ u, h.get? b = some u := by
  cases o with
  | lst xs =>
    obtain ⟨_, _, _, _, e⟩ := x
    exact ⟨_, e⟩
  | dK kvs =>
    obtain ⟨_, _, _, _, u, _, _, e, _⟩ := x
    exact ⟨u, e⟩
  | ext φ =>
    obtain ⟨_, e, _⟩ := x
    exact e
  | _ => exact m.elim
theorem env0_cut {K : PySem.W.Frag} {mg : Str → Option Value} {base : Heap} {A : Around} {outer : List Env} {s : Shared} (m : ∀ b ∈ hid, ∀ o, H b = some o → Hides o) (e : Env0 P w K mg base A outer s H) : Env0 P w K mg base A outer s (cut hid H) := by
  refine ⟨e.frames, e.mod, fun b o q => ⟨(e.bs b o q).1, ?_⟩, e.bsz, e.funs, fun b q => ?_, fun b o q => ?_, e.bare⟩
  · unfold cut
    split
    · rfl
    · exact (e.bs b o q).2
  · unfold cut
    split
    · rfl
    · exact e.frf b q
  · obtain ⟨n, q⟩ := cut_some q
    refine ok_beside (e.hok b o q) (fun c z => ?_) fun c xs z => ?_
    · rw [cut_out fun y => (m c y _ z).elim]
      exact z
    · rw [cut_out fun y => (m c y _ z).elim]
      exact z
theorem ce_glue {outer : List Env} {s s' : Shared} {Q : VK} {u : Value} (m : ∀ b ∈ hid, ∃ o, H b = some o ∧ Hides o) (hok : HOk P w H s.heap) (frf : ∀ b ∈ frs outer, H b = none) (c : CE outer P w (cut hid H) s (fun v G => (∀ b ∈ hid, G b = none) → Q v (glue hid H G)) u s') : CE outer P w H s Q u s' := by
  obtain ⟨v, G, os, bare, un, hok', r, q⟩ := c
  have th : ∀ b ∈ hid, ∃ o, s.heap.get? b = some o := fun b hb => by
    obtain ⟨o, e, q⟩ := m b hb
    exact hides_there q (hok b o e)
  have gone : ∀ b ∈ hid, G b = none := fun b hb => by
    obtain ⟨o, e⟩ := th b hb
    exact un.free b o e (cut_in hb) (by simp)
  have kept : ∀ b ∈ hid, ∀ o, s.heap.get? b = some o → s'.heap.get? b = some o := fun b hb o e => by
    obtain ⟨u, e1, _⟩ := m b hb
    exact un.keep b o e (cut_in hb) (fun z => by rw [frf b z] at e1; cases e1) (by simp)
  have nocut : ∀ {b : Addr}, H b = none → cut hid H b = none := fun {b} e => by
    unfold cut
    split
    · rfl
    · exact e
  refine ⟨v, glue hid H G, os, bare, ⟨fun b o e n => un.keep b o e (nocut n), fun b o e n => un.slot b o e (nocut n), fun b o e n x => ?_, un.there, fun b xs e => ?_, fun b o u e => ?_, fun b ps e => ?_⟩, fun b o e => ?_, r, q gone⟩
  · by_cases hb : b ∈ hid
    · rw [glue_in hb]
      exact n
    · rw [glue_out hb]
      exact un.free b o e (nocut n) x
  · by_cases hb : b ∈ hid
    · rw [glue_in hb]
      exact e
    · rw [glue_out hb]
      exact un.tups b xs (by rw [cut_out hb]; exact e)
  · by_cases hb : b ∈ hid
    · rw [glue_in hb]
      exact e
    · rw [glue_out hb]
      exact un.frzs b o u (by rw [cut_out hb]; exact e)
  · by_cases hb : b ∈ hid
    · exact ⟨#[], by rw [glue_in hb, e, Array.append_empty]⟩
    · rw [glue_out hb]
      exact un.tbls b ps (by rw [cut_out hb]; exact e)
  · by_cases hb : b ∈ hid
    · rw [glue_in hb] at e
      obtain ⟨o', e1, e2⟩ := m b hb
      rw [e] at e1
      cases e1
      exact ok_hidden e2 (hok b o e) (kept b hb)
    · rw [glue_out hb] at e
      have out : ∀ {c : Addr} {u : HO}, G c = some u → glue hid H G c = some u := fun {c u} z => by
        rw [glue_out fun y => by rw [gone c y] at z; cases z]
        exact z
      exact ok_beside (hok' b o e) (fun c z => out z) fun c xs z => out z
end
/-- f(..): what the promise asks; hid: what the callee is not told of -/
def tDf (sp : Sp) (E : XK) (t : TA) : TE := fun σ H Q => t σ H fun vs H1 => sp vs H1 Q E ∨ ∃ hid : List Addr, (∀ b ∈ hid, ∃ o, H1 b = some o ∧ Hides o) ∧ sp vs (cut hid H1) (fun v G => (∀ b ∈ hid, G b = none) → Q v (glue hid H1 G)) E0
section
variable {X : Cx} {k j : Nat} {G : Bool} {x : Str} {sp : Sp} {E : XK} {e : Expr} {es : List Expr} {t : TA} {p pos : Pos}
theorem run_df {pins : List (Addr × Obj)} {σ : L2.St} {H : Hp} {s : Shared} {Q : VK} {f : Addr} {fd : FuncData} {ps : List Str} {us : List Value} {vs : List V} (F : Rn X.prog X.w X.K X.mg X.base G k f fd ps sp) (hr : Room k X.A) (hg : G = true → X.A.guards = some []) (hb : L2.Binds X.K fd ps [])
    (hx : Passes (L2.CX X.prog X.w) X E) (I : Inv X pins σ H s) (r : Vals vs us) (h : sp vs H Q E ∨ ∃ hid : List Addr, (∀ b ∈ hid, ∃ o, H b = some o ∧ Hides o) ∧ sp vs (cut hid H) (fun v G => (∀ b ∈ hid, G b = none) → Q v (glue hid H G)) E0) : wpAny (model X.prog X.w) X.A (call (.ref f) us) (EP X pins σ Q) X.xe s := by
  have hl : vs.length = ps.length := h.elim (F.len _ _ _ _) fun ⟨_, _, q⟩ => F.len _ _ _ _ q
  have hb' := hb s us I.kIn (by rw [List.append_nil, ← r.length]; exact hl)
  rw [List.append_nil] at hb'
  rcases h with h | ⟨hid, m, h⟩
  · refine wpAny_call (codeAny_mono (F.run (s := s) (args := ⟨us, []⟩) hr hg I.env0 hb' r h) fun y s' hq => ?_)
    match y, hq with
    | .error e, hq => exact hx pins σ H s e s' I hq
    | .ok (.ret u), hq => exact I.after hq
  · refine wpAny_call (codeAny_mono (F.run (s := s) (args := ⟨us, []⟩) hr hg (env0_cut (fun b hb o e => by obtain ⟨o', e1, e2⟩ := m b hb; rw [e] at e1; cases e1; exact e2) I.env0) hb' r h) fun y s' hq => ?_)
    match y, hq with
    | .error e, hq =>
      obtain ⟨_, _, _, _, _, _, _, _, _, _, _, _, z⟩ := hq
      exact z.elim
    | .ok (.ret u), hq => exact I.after (ce_glue m I.hok I.env0.frf hq)
theorem pe_df (d : Df X.prog X.w X.K X.mg X.base G k x sp) (hr : Room j X.A) (hk : k ≤ j) (hg : G = true → X.A.guards = some []) (gl : Gl X x) (hx : Passes (L2.CX X.prog X.w) X E) (ha : PA X (e :: es) t)
    (hdb : (x == ("__debug__" : Str)) = false := by decide) (he : starEach (e :: es) X.env = (false, eval e X.env) :: starEach es X.env := by rfl) (hpl : (backTo pos (starEach es X.env)).any (·.1) = false := by rfl) :
    PE X (.Call (.Name x p) (e :: es) [] pos) (tDf sp E t) := by
  obtain ⟨f, fd, ps, F, hm, hkp, hb⟩ := d.ex
  refine ⟨fun pins s σ H Q I h => wpAny_Call_Name_kw (ld_glob I gl hm ?_ hdb)⟩
  exact PySem.W.callWith_K (h₀ := X.base) I.ok.mod.kin hkp (thn (ha.run pos pins s σ H _ I h) fun us s1 ⟨vs, H1, I1, r, q⟩ => ⟨I1.kIn, run_df F (hr.mono hk) hg hb hx I1 r q⟩) he hpl
theorem pe_df0 (d : Df X.prog X.w X.K X.mg X.base G k x sp) (hr : Room j X.A) (hk : k ≤ j) (hg : G = true → X.A.guards = some []) (gl : Gl X x) (hx : Passes (L2.CX X.prog X.w) X E) (hdb : (x == ("__debug__" : Str)) = false := by decide) :
    PE X (.Call (.Name x p) [] [] pos) (tDf sp E tNil) := by
  obtain ⟨f, fd, ps, F, hm, hkp, hb⟩ := d.ex
  refine ⟨fun pins s σ H Q I h => wpAny_Call_Name_kw (ld_glob I gl hm ?_ hdb)⟩
  exact PySem.W.callWith_K0 I.kIn hkp (run_df (us := []) F (hr.mono hk) hg hb hx I .nil h)
end
end Aim

namespace Aim
open PySem PySem.Spec PyProof.Rows L2
open LamX (TabB)
/-! ### the law's own call, at its caller: nothing is shown by repr around it -/
/-- what is tracked then: the tables of code, and the script (where the module does not hold it itself) -/
def atEntry (K : PySem.W.Frag) (ts : List Addr) (a : Addr) (o : Obj) (xs : List V) : Hp := fun b =>
  if b ∈ ts then some (.tbl #[]) else if b = a ∧ K.lookup a = none then some (.frz o (.lst xs)) else none
section
variable {K : PySem.W.Frag} {ts : List Addr} {a b : Addr} {o : Obj} {xs : List V}
theorem entry_tab (h : b ∈ ts) : atEntry K ts a o xs b = some (.tbl #[]) := if_pos h
theorem entry_cases {u : HO} (h : atEntry K ts a o xs b = some u) : (b ∈ ts ∧ u = .tbl #[]) ∨ (b ∉ ts ∧ b = a ∧ K.lookup a = none ∧ u = .frz o (.lst xs)) := by
  unfold atEntry at h
  by_cases h1 : b ∈ ts
  · rw [if_pos h1] at h
    exact .inl ⟨h1, (Option.some.inj h).symm⟩
  · rw [if_neg h1] at h
    by_cases h2 : b = a ∧ K.lookup a = none
    · rw [if_pos h2] at h
      exact .inr ⟨h1, h2.1, h2.2, (Option.some.inj h).symm⟩
    · rw [if_neg h2] at h
      cases h
theorem entry_none (h1 : b ∉ ts) (h2 : b = a → K.lookup a ≠ none) : atEntry K ts a o xs b = none := by
  unfold atEntry
  rw [if_neg h1, if_neg fun z => h2 z.1 z.2]
end
/-- an object like a table, empty -/
abbrev tab0 : Obj := { cls := .none, data := .fields #[] }
section
variable {P : Program} {w : World} {K : PySem.W.Frag} {mg mb : Str → Option Value} {k : Nat} {G : Bool} {fa a : Addr} {cs : List (Addr × Addr)} {fd : FuncData} {x : Str} {sp : Sp} {s₁ : Shared} {vs : List Value} {ns : List Int}
theorem call_law (KX : K.In s₁.heap) (hns : s₁.heap.Ns mainGlobals mg) (hb : s₁.heap.Ns builtinsNs mb) (hbb : ∀ x : Str, x ≠ "__name__" → mb x = bootBuiltins x) (hlim : s₁.heap.NoLimit) (hg : s₁.gens = #[])
    (hT : ∀ p ∈ cs, s₁.heap.get? p.2 = some tab0) (nT : ∀ p ∈ cs, K.lookup p.2 = none) (hC : ∀ p ∈ cs, PySem.W.CodeHd s₁.heap p.1 p.2)
    (hbm : ∃ (bm : Addr) (ob : Obj), mg "__builtins__" = some (.ref bm) ∧ bm ≠ builtinsNs ∧ s₁.heap.get? bm = some ob ∧ ob.cls = .type "module" ∧ ob.dict = some builtinsNs ∧ ob.data = .plain)
    (ha : s₁.heap.get? a = some { cls := .type "list", data := .seq vs.toArray }) (hi : IntsAre vs ns) (hl : ns.length ≤ sizeLine) (hr : Room k callerA)
    (F : ∀ base : Heap, K.In base → base.Ns mainGlobals mg → (∀ m, s₁.heap.Ns sysModules m → base.Ns sysModules m) → (∀ p ∈ cs, TabB base mg p.1 p.2) → Rn P w K mg base G k fa fd [x] sp) (hbind : ∀ (s : Shared) (u : Value), BindsTo s fd ⟨[u], []⟩ [(x, u)])
    (hsp : ∀ H : Hp, (∀ p ∈ cs, H p.2 = some (.tbl #[])) → SqL K H a (ns.map V.int) → sp [.ref a] H (fun v _ => v = .bl true) E0) :
    codeAny (model P w) callerA (.call (.ref fa) ⟨[.ref a], []⟩) (fun r s' => r = .ok (.ret (.bool true)) ∧ OldK s₁.heap s'.heap ∧ s'.os = s₁.os ∧ AllBare s'.gens) s₁ := by
  let ts := cs.map (·.2)
  let oa : Obj := { cls := .type "list", data := .seq vs.toArray }
  let H := atEntry K ts a oa (ns.map V.int)
  have rv : Vals (ns.map V.int) vs := vals_ints hi
  have tabs : ∀ b ∈ ts, s₁.heap.get? b = some tab0 ∧ K.lookup b = none := by
    rintro b hm
    obtain ⟨p, hp, rfl⟩ := List.mem_map.mp hm
    exact ⟨hT p hp, nT p hp⟩
  have mem : ∀ p ∈ cs, p.2 ∈ ts := fun p hp => List.mem_map_of_mem hp
  have aOut : a ∉ ts := fun z => by
    have y := (tabs a z).1
    rw [ha] at y
    exact nomatch (Option.some.inj y)
  -- an object that is neither a table nor the script is not tracked
  have out : ∀ {b : Addr} {o : Obj}, s₁.heap.get? b = some o → o.data ≠ .fields #[] → (∀ u n, o.data ≠ .seq u n) → H b = none := fun {b o} e n1 n2 => by
    refine entry_none (fun z => ?_) fun z => ?_
    · have y := (tabs b z).1
      rw [e] at y
      cases y
      exact absurd rfl n1
    · rw [z, ha] at e
      cases e
      exact absurd rfl (n2 _ _)
  have stay : ∀ {b : Addr} {o : Obj}, s₁.heap.get? b = some o → H b = none → (hidT s₁.heap H).get? b = some o := fun e n => hidT_get e n
  have names : ∀ {b : Addr} {m : Str → Option Value}, s₁.heap.Ns b m → (hidT s₁.heap H).Ns b m := by
    rintro b m ⟨o, es, ep, e, d, r⟩
    exact ⟨o, es, ep, stay e (out e (by rw [d]; exact fun z => nomatch z) (by rw [d]; exact fun _ _ z => nomatch z)), d, r⟩
  have KB : K.In (hidT s₁.heap H) := fun b o e => stay (KX b o e) (entry_none (fun z => by rw [(tabs b z).2] at e; cases e) fun z y => by rw [z, y] at e; cases e)
  have md : L2.Mod K mg (hidT s₁.heap H) := by
    obtain ⟨mc, l1, l2⟩ := hlim
    exact ⟨KB, names hns, ⟨mb, names hb, hbb⟩, mc, names l1, l2⟩
  have TB : ∀ p ∈ cs, TabB (hidT s₁.heap H) mg p.1 p.2 := fun p hp => by
    have ht := hT p hp
    have gP : mainGlobals ≠ p.2 := fun z => by
      obtain ⟨o, es, ep, e, d, _⟩ := hns
      rw [z, ht] at e
      cases e
      cases d
    refine ⟨?_, ?_, gP⟩
    · obtain ⟨o, us, file, tf, flags, tg, inF, text, tt, e1, r1, r2, r3, r⟩ := hC p hp
      refine ⟨o, us, file, tf, flags, tg, inF, text, tt, stay e1 (out e1 (fun z => ?_) fun u n z => ?_), r1, r2, r3, r⟩
      · rw [r2] at z
        cases z
        simp at r3
      · rw [r2] at z
        cases z
    · obtain ⟨bm, ob, b1, b2, b3, b4, b5, b6⟩ := hbm
      refine ⟨bm, ob, b1, b2, fun z => ?_, fun z => ?_, stay b3 (out b3 (by rw [b6]; exact fun z => nomatch z) (by rw [b6]; exact fun _ _ z => nomatch z)), b4, b5, b6⟩
      · obtain ⟨o, es, ep, e, d, _⟩ := hns
        rw [← z, b3] at e
        cases e
        rw [b6] at d
        cases d
      · rw [z, ht] at b3
        cases b3
        cases b6
  have scr : ObjOk P w H s₁.heap a (.frz oa (.lst (ns.map V.int))) := ⟨ha, by rw [List.length_map]; exact hl, vs, 0, rv, ha⟩
  have ok : HOk P w H s₁.heap := fun b u e => by
    rcases entry_cases e with ⟨m, rfl⟩ | ⟨_, e1, _, rfl⟩
    · exact (tabs b m).1
    · rw [e1]
      exact scr
  have sq : SqL K H a (ns.map V.int) := by
    cases q : K.lookup a with
    | none => exact .inl (.inr ⟨oa, (if_neg aOut).trans (if_pos ⟨rfl, q⟩)⟩)
    | some o =>
      have e := KX a o q
      rw [ha] at e
      cases e
      exact .inr ⟨_, vs.toArray, _, q, rfl, rfl, rfl, by rw [List.size_toArray, hi.length]; exact hl, by simpa using rv⟩
  have tabH : ∀ p ∈ cs, H p.2 = some (.tbl #[]) := fun p hp => entry_tab (mem p hp)
  have e0 : Env0 P w K mg (hidT s₁.heap H) callerA [] s₁ H := ⟨rfl, md, fun b o e => of_hidT e, Nat.le_of_eq (hidT_size _ _), trivial, (by intro b z; exact absurd (show b ∈ ([] : List Addr) from z) (by simp)), ok, AllBare.of_eq hg⟩
  refine codeAny_mono ((F _ KB (names hns) (fun _ h => names h) TB).run (us := [.ref a]) (vs := [V.ref a]) hr (fun _ => rfl) e0 (hbind s₁ (.ref a)) (.cons rfl .nil) (hsp H tabH sq)) fun r s' h => ?_
  match r, h with
  | .error e, h =>
    obtain ⟨_, _, _, _, _, _, _, _, _, _, _, _, z⟩ := h
    exact z.elim
  | .ok (.ret u), ⟨v, H', os, bare, un, hok', r', q⟩ =>
    have q : v = .bl true := q
    rw [q] at r'
    obtain rfl : u = Value.bool true := r'
    -- what is no table stands as it was
    have key : ∀ b o, b ∉ ts → s₁.heap.get? b = some o → s'.heap.get? b = some o := fun b o nb e => by
      cases q : H b with
      | none => exact un.keep b o e q (by intro z; exact absurd (show b ∈ ([] : List Addr) from z) (by simp)) (by simp)
      | some u =>
        rcases entry_cases q with ⟨m, _⟩ | ⟨_, e1, _, rfl⟩
        · exact absurd m nb
        · obtain ⟨g1, _⟩ := ok b _ q
          obtain ⟨g2, _⟩ := hok' b _ (un.frzs b _ _ q)
          rw [e] at g1
          cases g1
          exact g2
    have grown : ∀ p ∈ cs, ∃ more : Array Value, s'.heap.get? p.2 = some { cls := .none, data := .fields more } := fun p hp => by
      obtain ⟨more, z⟩ := un.tbls p.2 #[] (tabH p hp)
      exact ⟨_, hok' p.2 _ z⟩
    refine ⟨rfl, ⟨fun b o e => ?_, fun b o e => ?_⟩, os, bare⟩
    · by_cases m : b ∈ ts
      · obtain ⟨p, hp, rfl⟩ := List.mem_map.mp m
        obtain ⟨more, hm⟩ := grown p hp
        have e' := hT p hp
        rw [e] at e'
        cases e'
        exact .inr (.inl ⟨((hC p hp).tab e).isCodeTable, rfl, #[], more, rfl, by simpa using hm⟩)
      · exact .inl (key b o m e)
    · by_cases m : b ∈ ts
      · obtain ⟨p, hp, rfl⟩ := List.mem_map.mp m
        obtain ⟨more, hm⟩ := grown p hp
        exact ⟨_, hm⟩
      · exact ⟨o, key b o m e⟩
/-- what is to be known of the law's def at the head's heap h -/
def AtLaw (l : PySem.W.OpenLaw) (w : World) (K : PySem.W.Frag) (k n : Nat) (x : Str) (mg : Str → Option Value) (fa : Addr) (h : Heap) : Prop :=
  ∃ (fd : FuncData) (cs : List (Addr × Addr)) (sp : Sp), (∀ p ∈ cs, h.get? p.2 = some tab0 ∧ K.lookup p.2 = none ∧ PySem.W.CodeHd h p.1 p.2) ∧ (∀ (s : Shared) (u : Value), BindsTo s fd ⟨[u], []⟩ [(x, u)]) ∧
    (∀ (H : Hp) (a : Addr) (ns : List Int), ns.length ≤ n → (∀ z ∈ ns, Builtin.Int.intBits z ≤ 1048576) → (∀ p ∈ cs, H p.2 = some (.tbl #[])) → SqL K H a (ns.map V.int) → sp [.ref a] H (fun v _ => v = .bl true) E0) ∧
    ∀ base : Heap, K.In base → base.Ns mainGlobals mg → (∀ m, h.Ns sysModules m → base.Ns sysModules m) → (∀ p ∈ cs, TabB base mg p.1 p.2) → Rn l.prog w K mg base true k fa fd [x] sp
theorem walk_law {l : PySem.W.OpenLaw} {n : Nat} {q : Program} {loose : List Str} {XP : (Str → Option Value) → Heap → Prop} {YP : World → Heap → Prop} {d : DefRec} {K : Params → PySem.W.Frag}
    (hn : l.most = some n) (hn2 : n ≤ sizeLine) (hdf : d.params.defaults = []) (hr : Room k callerA) (hY : ∀ (w : World) (h : Heap), YP w h → (K w.params).In h)
    (F : ∀ (w : World) (mg : Str → Option Value) (fa : Addr) (h : Heap), YP w h → (K w.params).In h → h.Ns mainGlobals mg → mg d.name = some (.ref fa) →
      (∀ (x : Str) (d : DefRec) (c P : Addr), (recsOf q).find? (fun e => e.name == x) = some d → PySem.W.tabIn (K w.params) x = some (c, P) → PySem.W.CodeHd h c P ∧ h.get? P = some tab0) → (importsNone q = true → h.NoSeer) → AtLaw l w (K w.params) k n x mg fa h) :
    PySem.W.WalkO q loose XP YP l.row.toRowW d [] (fun f vs => PySem.call f vs) := by
  refine Att.attach_callB hn hdf fun w s₀ s₁ mg mb fa o pm cd doc a vs ns G Y ho hd hcd hmg hobj hints hlen hbits hg => ?_
  obtain ⟨fd, cs, sp, hT, hb, hsp, hF⟩ := F w mg fa _ Y (hY w _ Y) G.T.g hmg (fun x d c P h1 h2 => PySem.W.tab_of G.T (hY w _ Y) h1 h2) G.T.seer
  exact call_law (hY w _ Y) G.T.g G.T.b G.T.builtins G.T.nolimit hg (fun p hp => (hT p hp).1) (fun p hp => (hT p hp).2.1) (fun p hp => (hT p hp).2.2) G.T.bmain hobj hints (Nat.le_trans hlen hn2) hr hF hb fun H hH hS => hsp H a ns hlen hbits hH hS
end
end Aim

namespace Aim
open PySem PySem.Spec PyProof.Rows L2
open LamX (TabB CodeO GivesTo)
/-- v = None / try: a() / except e as n: v = n / return v: the error that a() raises, or None -/
def TTc (K : PySem.W.Frag) (AE : Addr) : (XK → Hp → VK → Prop) → Hp → VK → Prop := fun tl H Q =>
  tl (fun cls d H' => PySem.W.exmOne K cls (.ref AE) = some true ∧ ∀ a, H' a = none → Q (.ref a) (upd H' a (XcV cls d a))) H fun _ H' => Q .non H'
theorem caught_gives {X : Cx} {x v a n e q : Str} {sg : Scope} {g AE : Addr} {cdg : Value} {j : Nat} {p1 p2 p3 p4 p5 p6 p7 p8 p9 p10 p11 p12 p13 p14 : Pos} (hge : sg.names.lookup e = some .globalImplicit) (hme : X.mg e = some (.ref AE)) (hde : (e == ("__debug__" : Str)) = false)
    (hv : sg.names.lookup v = some .local) (hn : sg.names.lookup n = some .local) (hnd : [a, v, n].Nodup) (hdv : (v == ("__debug__" : Str)) = false) (hcv : (v == ("__classdict__" : Str)) = false) (hdn : (n == ("__debug__" : Str)) = false) (hcn : (n == ("__classdict__" : Str)) = false) :
    GivesTo X [a, v, n] x sg g cdg [.Assign [.Name v p1] (.Constant .none j p2) p3, .Try [.Expr (.Call (.Name a p4) [] [] p5) p6] [.ExceptHandler (some (.Name e p7)) (some n) [.Assign [.Name v p8] (.Name n p9) p10] p11] [] [] p12, .Return (some (.Name v p13)) p14] a q (TTc X.K AE) := by
  intro f c' s H Q tl act hc h
  let Y := (cxOf C8.CX0 X.prog X.w X.K X.mg X.base [a, v, n] x sg g cdg X.A X.stack s H C8.E0).nox
  have hgl : Gl Y e := hge
  refine ⟨_, pss_cons (ps_asg pe_non (pg_name (i := 1) hnd rfl (.inl hv) (.inr hv))) (pss_cons (ps_try_keep (X := Y) (i := 2) (c := .ref AE) (Wout := fun _ _ _ _ => False)
      (tb := fun W D σ H => ∃ Ech : XK, (∀ cls d σ' H', Ech cls d H' → W cls d σ' H') ∧ σ[0]? = some (some (.ref f)) ∧ H c' = some (CodeO c' q) ∧ tl Ech H fun _ H' => D.nx σ H')
      rfl rfl rfl hnd rfl hn hgl hme hde LamX.takes0 (fun W pn xe tk _ => ?_) (fun b oe pn => pss_one (ps_asg (pe_var (i := 2) rfl (.inl hn) hdn hcn) (pg_name (i := 1) hnd rfl (.inl hv) (.inr hv))))) (pss_one (ps_ret (pe_var (i := 1) rfl (.inl hv) hdv hcv)))), ?_⟩
  · refine ⟨fun pins s' σ H' D I h' => ?_⟩
    obtain ⟨Ech, hW, h1, h2, h3⟩ := h'
    exact (pss_one (ps_expr (pos := p6) (act W pn xe Ech p4 p5 tk hW))).run pins s' σ H' D I ⟨h1, h2, h3⟩
  · refine ⟨fun cls d H' => PySem.W.exmOne X.K cls (.ref AE) = some true ∧ ∀ a, H' a = none → Q (.ref a) (upd H' a (XcV cls d a)), fun cls d σ' H' hh => ⟨true, hh.1, fun _ b hb hl => ?_, fun z => nomatch z⟩, rfl, hc, ?_⟩
    rotate_left
    · have e : (fun (_ : V) (H' : Hp) => ∃ u, (some (some V.non) : Option (Option V)) = some (some u) ∧ Q u H') = fun _ H' => Q .non H' := by
        funext _ H'
        exact propext ⟨fun ⟨_, e, q⟩ => by cases e; exact q, fun q => ⟨_, rfl, q⟩⟩
      have h : tl _ H _ := h
      rw [← e] at h
      exact h
    match σ', hl with
    | [_, _, _], _ => exact ⟨_, rfl, _, rfl, hh.2 b hb⟩
end Aim

namespace Aim
open PySem PySem.Spec PyProof.Rows L2
open LamX (TabB)
/-! ### what stands behind the top -/
/-- a def of the text behind the top -/
structure Has (K : PySem.W.Frag) (mg : Str → Option Value) (x : Str) (st : Stmt) : Prop where
  ex : ∃ (f : Addr) (fd : FuncData), L2.Fun K x x st f fd ∧ mg x = some (.ref f)
/-- the built-in names that no global hides -/
structure Blt (mg : Str → Option Value) : Prop where
  n_len : mg "len" = none
  n_int : mg "int" = none
  n_abs : mg "abs" = none
  n_isinstance : mg "isinstance" = none
  n_bool : mg "bool" = none
  n_str : mg "str" = none
  n_list : mg "list" = none
  n_tuple : mg "tuple" = none
  n_range : mg "range" = none
  n_max : mg "max" = none
  n_min : mg "min" = none
  n_all : mg "all" = none
  n_any : mg "any" = none
  n_zip : mg "zip" = none
  n_repr : mg "repr" = none
  n_super : mg "super" = none
  n_sorted : mg "sorted" = none
  n_enumerate : mg "enumerate" = none
  n_dict : mg "dict" = none
  n_set : mg "set" = none
  n_bytes : mg "bytes" = none
  n_sum : mg "sum" = none
/-! ### expressions in short -/
section
variable {X : Cx} {x : Str} {v : V} {pos : Pos}
theorem pe_gl (hg : Gl X x) (h : ∃ u, X.mg x = some u ∧ RelV v u) (hd : (x == ("__debug__" : Str)) = false := by decide) : PE X (.Name x pos) (tC v) := by
  obtain ⟨u, h1, h2⟩ := h
  exact pe_glob hg h1 h2 hd
/-- isinstance(x, (tuple, list)) of data -/
def rIsTL (K : PySem.W.Frag) : List V → Hp → VK → Prop := fun xs H Q => ∃ (x : V) (d : PyData) (tp : Addr), xs = [x, .ref tp] ∧ H tp = some (.tup [.ty "tuple", .ty "list"]) ∧ DD K H x d ∧ Q (.bl (isD "tuple" d || isD "list" d)) H
theorem call_isTL : CallR X (.builtin "isinstance") (rIsTL X.K) := by
  intro pins s σ H xs us Q I r ⟨x, d, tp, ex, hT, hd, q⟩
  refine call_isiT pins s σ H xs us Q I r ⟨x, tp, _, _, [.type "tuple", .type "list"], _, ex, hT, .cons (.ty _) (.cons (.ty _) .nil), hd.ty, ?_, q⟩
  refine kitAny_cons (kit_D d (T := "tuple") (by simp)) (fun z => ?_) fun z => by rw [z, Bool.true_or]
  refine kitAny_cons (kit_D d (T := "list") (by simp)) (fun z2 => ?_) fun z2 => by rw [z2, Bool.or_true]
  rw [z, z2]
  rfl
end
/-! ### data, small -/
section
variable {K : PySem.W.Frag} {H : Hp}
/-- data without parts: None, truths, numbers, texts -/
def flatD : PyData → Bool
  | .none | .bool _ | .int _ => true
  | .str x => PyData.canLay0 (.str x)
  | _ => false
theorem DD.tup0 {p : Addr} (h : H p = some (.tup [])) : DD K H (.ref p) (.tuple []) := .tup (.inl (.inl h)) .nil
theorem DD.lst0 {p : Addr} (h : H p = some (.lst [])) : DD K H (.ref p) (.list []) := .lst (.inl (.inl h)) .nil
theorem DD.tupOf {p : Addr} {xs : List V} {ds : List PyData} (h : H p = some (.tup xs)) (d : DDs K H xs ds) : DD K H (.ref p) (.tuple ds) := .tup (.inl (.inl h)) d
theorem DD.lstOf {p : Addr} {xs : List V} {ds : List PyData} (h : H p = some (.lst xs)) (d : DDs K H xs ds) : DD K H (.ref p) (.list ds) := .lst (.inl (.inl h)) d
theorem DD.isTuple {v : V} {d : PyData} (h : DD K H v d) (e : isD "tuple" d = true) : ∃ a xs ds, v = .ref a ∧ d = .tuple ds ∧ SqT K H a xs ∧ DDs K H xs ds := by
  cases h with
  | tup h1 h2 => exact ⟨_, _, _, rfl, rfl, h1, h2⟩
  | _ => simp [isD] at e
theorem DD.isList {v : V} {d : PyData} (h : DD K H v d) (e : isD "list" d = true) : ∃ a xs ds, v = .ref a ∧ d = .list ds ∧ SqL K H a xs ∧ DDs K H xs ds := by
  cases h with
  | lst h1 h2 => exact ⟨_, _, _, rfl, rfl, h1, h2⟩
  | _ => simp [isD] at e
theorem DD.int_iff {v : V} {i : Int} (h : DD K H v (.int i)) : v = .int i := by cases h; rfl
theorem DD.bl_iff {v : V} {b : Bool} (h : DD K H v (.bool b)) : v = .bl b := by cases h; rfl
theorem DD.str_iff {v : V} {x : Str} (h : DD K H v (.str x)) : v = .str x := by cases h; rfl
theorem DD.non_iff {v : V} (h : DD K H v .none) : v = .non := by cases h; rfl
def noneD : PyData → Bool
  | .none => true
  | _ => false
theorem DD.is_none {v : V} {d : PyData} (h : DD K H v d) : decide (v = .non) = noneD d := by
  cases h <;> simp [noneD]
end
end Aim

namespace Aim
open PySem PySem.Spec PyProof.Rows L2
open LamX (TabB Tabs)
/-! ### comprehensions: the new list told with what it holds -/
section
variable {K : PySem.W.Frag} {TT : List (Addr × Str)}
theorem lst_no_tab {H : Hp} {D : Addr} {acc bcc : List V} (h : H D = some (.lst acc)) (t : Tabs TT H) : Tabs TT (upd H D (.lst bcc)) := fun p hp => by
  obtain ⟨ps, h1, h2, h3⟩ := t p hp
  refine ⟨ps, ?_, h2, fun pos cv hc => ?_⟩
  · rw [upd_ne fun z => by rw [z, h] at h1; cases h1]
    exact h1
  · obtain ⟨c, e1, e2⟩ := h3 pos cv hc
    refine ⟨c, e1, ?_⟩
    rw [upd_ne fun z => by rw [z, h] at e2; unfold LamX.CodeO at e2; cases e2]
    exact e2
theorem Ext.put {H H' : Hp} {D : Addr} {acc bcc : List V} (e : Ext TT H H') (n : H D = none) (h : H' D = some (.lst acc)) : Ext TT H (upd H' D (.lst bcc)) := by
  refine ⟨fun b o q k1 k2 => ?_, fun t => lst_no_tab h (e.2 t)⟩
  rw [upd_ne (ne_of_none q n)]
  exact e.1 b o q k1 k2
theorem upd_none {H : Hp} {p D : Addr} {o : HO} (h : upd H p o D = none) : H D = none := by
  unfold upd at h
  split at h
  · cases h
  · exact h
theorem Ext.free {H H' : Hp} {b : Addr} (e : Ext TT H H') (h : H' b = none) : H b = none ∨ ∃ n, H b = some (PotO n b) ∨ ∃ ps, H b = some (.tbl ps) := by
  cases q : H b with
  | none => exact .inl rfl
  | some o =>
    by_cases h1 : ∃ n, o = PotO n b
    · obtain ⟨n, rfl⟩ := h1
      exact .inr ⟨n, .inl rfl⟩
    · by_cases h2 : ∃ ps, o = .tbl ps
      · obtain ⟨ps, rfl⟩ := h2
        exact .inr ⟨0, .inr ⟨ps, rfl⟩⟩
      · have y := e.1 b o q (fun n z => h1 ⟨n, z⟩) fun ps z => h2 ⟨ps, z⟩
        rw [h] at y
        cases y
theorem walk_zipT {a b : Addr} {xs ys : List V} {n : Nat} (h1 : n = xs.length) (h2 : n = ys.length) : Walk (RZ.ItzT K a b) n (fun H => SqT K H a xs ∧ SqT K H b ys) (YPair (fun i => xs[i]?) (fun i => ys[i]?)) := by
  refine ⟨fun i H hi q => ⟨xs, ys, xs[i]'(by omega), ys[i]'(by omega), q.1, q.2, by simp, by simp⟩, fun H q => ⟨xs, ys, q.1, q.2, .inl (by omega)⟩, fun i H v H' _ q y => ?_⟩
  obtain ⟨T, x, z, e1, e2, e3, e4, e5⟩ := y
  exact ⟨T, x, z, e1, e2, e3, e4 _ q.1, e5 _ q.2⟩
end
/-! ### what the law's own look asks of data -/
/-- a whole number, no truth -/
def isI : PyData → Bool
  | .int _ => true
  | _ => false
theorem isI_is (d : PyData) : (isD "int" d && !isD "bool" d) = isI d := by cases d <;> rfl
theorem isI_int {d : PyData} (h : isI d = true) : ∃ i, d = .int i := by
  cases d with
  | int i => exact ⟨i, rfl⟩
  | _ => cases h
def inD (d : PyData) (lo hi : Int) : Bool :=
  match d with
  | .int i => decide (lo ≤ i) && decide (i ≤ hi)
  | _ => false
theorem inD_no {d : PyData} {lo hi : Int} (h : ¬ isI d = true) : inD d lo hi = false := by
  cases d with
  | int i => exact absurd rfl h
  | _ => rfl
theorem inD_int {d : PyData} {lo hi : Int} (h : inD d lo hi = true) : ∃ i, d = .int i ∧ lo ≤ i ∧ i ≤ hi := by
  cases d with
  | int i =>
    have h : (decide (lo ≤ i) && decide (i ≤ hi)) = true := h
    rw [Bool.and_eq_true, decide_eq_true_eq, decide_eq_true_eq] at h
    exact ⟨i, rfl, h⟩
  | _ => cases h
/-- trees of lists and tuples over flat data, n deep at most -/
inductive Tree : Nat → PyData → Prop
  | leaf {n : Nat} {d : PyData} (h : flatD d = true) : Tree n d
  | tup {n : Nat} {ds : List PyData} (h : ∀ d ∈ ds, Tree n d) (l : ds.length ≤ 1000) : Tree (n + 1) (.tuple ds)
  | lst {n : Nat} {ds : List PyData} (h : ∀ d ∈ ds, Tree n d) (l : ds.length ≤ 1000) : Tree (n + 1) (.list ds)
theorem flat_eqv {d : PyData} (h : flatD d = true) : PyData.eqv d d = true := by
  cases d <;> first | rfl | (simp [PyData.eqv]; done) | (cases h; done)
theorem flat_shaped {d : PyData} (h : flatD d = true) : SeqAt.shaped d = true := by
  cases d with
  | str x => exact Bool.and_eq_true_iff.mpr ⟨h, by simp [PyData.depth]⟩
  | none => rfl
  | bool b => rfl
  | int i => rfl
  | _ => cases h
theorem flat_no {d : PyData} (h : flatD d = true) : isD "tuple" d = false ∧ isD "list" d = false := by
  cases d <;> first | exact ⟨rfl, rfl⟩ | (cases h; done)
/-! ### heaps that grow by new objects -/
def Grow (H H' : Hp) : Prop := ∀ b o, H b = some o → H' b = some o
theorem Grow.refl (H : Hp) : Grow H H := fun _ _ e => e
theorem Grow.new {H : Hp} {p : Addr} {o : HO} (h : H p = none) : Grow H (upd H p o) := fun b u e => by
  rw [upd_ne (ne_of_none e h)]
  exact e
theorem Grow.trans {H H1 H2 : Hp} (a : Grow H H1) (b : Grow H1 H2) : Grow H H2 := fun c o e => b c o (a c o e)
theorem Grow.ext {TT : List (Addr × Str)} {H H' : Hp} (a : Grow H H') : Ext TT H H' := .of a
/-! ### data that repr shows in its room -/
def goodB (d : PyData) : Bool := d.showable && (!d.hasDict || noList d) && decide (d.depth ≤ 40) && decide (d.shown.length ≤ 100000)
def Good (d : PyData) : Prop := goodB d = true
theorem Good.all {d : PyData} (h : Good d) : d.showable = true ∧ (d.hasDict = true → noList d = true) ∧ d.depth ≤ 40 ∧ d.shown.length ≤ sizeLine := by
  unfold Good goodB at h
  simp only [Bool.and_eq_true, decide_eq_true_eq, Bool.or_eq_true, Bool.not_eq_true'] at h
  obtain ⟨⟨⟨h1, h2⟩, h3⟩, h4⟩ := h
  refine ⟨h1, fun z => ?_, h3, Nat.le_trans h4 (by decide)⟩
  rcases h2 with h2 | h2
  · rw [h2] at z
    cases z
  · exact h2
theorem good_small {i : Int} (h0 : -3 ≤ i) (h1 : i ≤ 12) : Good (.int i) := by
  have h : ∀ k ∈ List.range 16, goodB (.int ((k : Nat) - 3)) = true := by
    have y : (List.range 16).all (fun k => goodB (.int ((k : Nat) - 3))) = true := by decide +kernel
    exact List.all_eq_true.mp y
  have z := h (i + 3).toNat (List.mem_range.mpr (by omega))
  have e : (((i + 3).toNat : Nat) : Int) - 3 = i := by omega
  rw [e] at z
  exact z
section
variable {K : PySem.W.Frag} {H H' : Hp}
theorem DD.grow {v : V} {d : PyData} (h : DD K H v d) (e : Grow H H') : DD K H' v d := h.mono (e.ext (TT := []))
theorem DDs.grow {v : List V} {d : List PyData} (h : DDs K H v d) (e : Grow H H') : DDs K H' v d := h.mono (e.ext (TT := []))
theorem Grow.sqT {a : Addr} {xs : List V} (e : Grow H H') (h : SqT K H a xs) : SqT K H' a xs := (e.ext (TT := [])).sqT h
theorem Grow.sqL {a : Addr} {xs : List V} (e : Grow H H') (h : SqL K H a xs) : SqL K H' a xs := (e.ext (TT := [])).sqL h
theorem Grow.lst {a : Addr} {xs : List V} (e : Grow H H') (h : H a = some (.lst xs)) : H' a = some (.lst xs) := e _ _ h
theorem Grow.free {b : Addr} (e : Grow H H') (h : H' b = none) : H b = none := by
  cases q : H b with
  | none => rfl
  | some o =>
    rw [e b o q] at h
    cases h
theorem Grow.put {D : Addr} {o : HO} (e : Grow H H') (n : H D = none) : Grow H (upd H' D o) := fun b u q => by
  rw [upd_ne (ne_of_none q n)]
  exact e b u q
end
/-! ### a list beside the empty one -/
section
variable {X : Cx}
def rNeE (K : PySem.W.Frag) : R2 := fun x y H Q => ∃ (a b : Addr) (xs : List V), x = .ref a ∧ y = .ref b ∧ SqL K H a xs ∧ SqL K H b [] ∧ Q (.bl (!xs.isEmpty)) H
theorem op_neE (hu : X.A.units + 64 < cLine) : OpR X (compareOp .NotEq) (rNeE X.K) := by
  intro pins s σ H x y v u Q I rx ry ⟨a, b, xs, ex, ey, ha, hb, q⟩
  subst ex
  subst ey
  obtain rfl : v = Value.ref a := rx
  obtain rfl : u = Value.ref b := ry
  obtain ⟨i1, r1, ⟨o1, n1, g1, c1, _, d1⟩, _⟩ := I.list ha
  obtain ⟨i2, r2, ⟨o2, n2, g2, c2, _, d2⟩, _⟩ := I.list hb
  cases r2
  have l1 : s.heap.IsList a i1.toArray := ⟨o1, g1, c1, n1, d1⟩
  have l2 : s.heap.IsList b #[] := ⟨o2, g2, c2, n2, d2⟩
  cases r1 with
  | nil => exact SeqAt.RcNeAt.lists l1 l2 rfl (by omega) (e := fun _ => true) (fun j h => absurd h (by simp)) _ _ _ _ ⟨.bl false, H, I, rfl, q⟩
  | cons h t => exact SeqAt.RcNeAt.lists_lengths l1 l2 (by simp) (by omega) _ _ _ _ ⟨.bl true, H, I, rfl, q⟩
end
end Aim

namespace Aim
open PySem PySem.Spec PyProof.Rows L2
open LamX (TabB Tabs CodeO GivesTo)
/-! ### a def whose code object is known (it makes lambdas) -/
structure HasC (K : PySem.W.Frag) (mg : Str → Option Value) (x : Str) (st : Stmt) (c : Addr) : Prop where
  ex : ∃ (f : Addr) (oc : Value) (od : Option Addr) (kV doc pm : Value) (an : Option Addr) (ct : Value) (osl : Array (Option Value)),
    K.lookup f = some ⟨oc, od, .func (PySem.W.fnOf x x (defArgs st) (defBody st) (defScope st) .none kV doc pm an (.ref c) ct), osl⟩ ∧ PySem.W.codeIn K (.ref c) x = true ∧ PySem.W.keepIn K (.ref f) = true ∧ mg x = some (.ref f)
section
variable {P : Program} {w : World} {K : PySem.W.Frag} {mg : Str → Option Value} {base : Heap} {G : Bool}
theorem df_okC {x : Str} {st : Stmt} {c : Addr} {N ps : List Str} {k : Nat} {sp : Sp} (F : HasC K mg x st c) (S : FnScope N ps (defScope st)) (len : ∀ vs H Q E, sp vs H Q E → vs.length = ps.length)
    (hb : ∀ (kV doc pm : Value) (an : Option Addr) (cdv ct : Value) (us : List Value), us.length = ps.length → bindArgs (PySem.W.fnOf x x (defArgs st) (defBody st) (defScope st) .none kV doc pm an cdv ct) ⟨us, []⟩ = pure (ps.zip us))
    (body : ∀ (f : Addr) (A : Around) (outer : List Env) (s : Shared) (H : Hp) (vs : List V) (Q : VK) (E : XK), Room k (A.deeper (envOfC x (defScope st) s.heap.objs.size f (.ref c))) → (G = true → A.guards = some []) → sp vs H Q E →
      ∃ t, PSs (cxOf (L2.CX P w) P w K mg base N x (defScope st) f (.ref c) A outer s H E).nox (defBody st) t ∧ t { nx := fun _ H' => Q .non H', rt := Q } (start N vs) H) : Df P w K mg base G (k + 1) x sp := by
  obtain ⟨f, oc, od, kV, doc, pm, an, ct, osl, lk, hcd, kp, hm⟩ := F.ex
  refine ⟨f, _, ps, ⟨len, fun hr hg e0 b r q => LamX.run_ofS lk hcd S hr e0 b r (len _ _ _ _ q) fun hr' => ?_⟩, hm, kp, .all (hb _ _ _ _ _ _)⟩
  obtain ⟨t, h, z⟩ := body _ _ _ _ _ _ _ _ hr' hg q
  exact ⟨t, h.nox, z⟩
end
section
variable {P : Program} {w : World} {K : PySem.W.Frag} {mg : Str → Option Value} {base : Heap} {G : Bool}
/-- a def's promise by its body, its object known -/
theorem rn_ok {x : Str} {st : Stmt} {f : Addr} {fd : FuncData} {N ps : List Str} {k : Nat} {sp : Sp} (F : L2.Fun K x x st f fd) (S : FnScope N ps (defScope st)) (len : ∀ vs H Q E, sp vs H Q E → vs.length = ps.length)
    (body : ∀ (cdv : Value) (A : Around) (outer : List Env) (s : Shared) (H : Hp) (vs : List V) (Q : VK) (E : XK), Room k (A.deeper (envOfC x (defScope st) s.heap.objs.size f cdv)) → (G = true → A.guards = some []) → sp vs H Q E →
      ∃ t, PSs (cxOf (L2.CX P w) P w K mg base N x (defScope st) f cdv A outer s H E).nox (defBody st) t ∧ t { nx := fun _ H' => Q .non H', rt := Q } (start N vs) H) : Rn P w K mg base G (k + 1) f fd ps sp := by
  obtain ⟨oc, od, kV, doc, pm, an, cdv, ct, osl, rfl, lk, hcd⟩ := F.ex
  refine ⟨len, fun hr hg e0 b r q => LamX.run_ofS lk hcd S hr e0 b r (len _ _ _ _ q) fun hr' => ?_⟩
  obtain ⟨t, h, z⟩ := body cdv _ _ _ _ _ _ _ hr' hg q
  exact ⟨t, h.nox, z⟩
theorem has_mk {h : Heap} (X : K.In h) (G : h.Ns mainGlobals mg) {x : Str} {st : Stmt} {f : Addr} {oc kV doc pm cd ct : Value} {od an : Option Addr} {osl : Array (Option Value)} (a : PySem.W.nsIn K mainGlobals x = some (some (.ref f)))
    (l : K.lookup f = some ⟨oc, od, .func (PySem.W.fnOf x x (defArgs st) (defBody st) (defScope st) .none kV doc pm an cd ct), osl⟩) (c : PySem.W.codeIn K cd x = true) (k : PySem.W.keepIn K (.ref f) = true) : Has K mg x st :=
  ⟨f, _, fun_mk (st := st) l c k, PySem.W.mg_of X G a⟩
theorem hasC_mk {h : Heap} (X : K.In h) (G : h.Ns mainGlobals mg) {x : Str} {st : Stmt} {f cd : Addr} {oc kV doc pm ct : Value} {od an : Option Addr} {osl : Array (Option Value)} (a : PySem.W.nsIn K mainGlobals x = some (some (.ref f)))
    (l : K.lookup f = some ⟨oc, od, .func (PySem.W.fnOf x x (defArgs st) (defBody st) (defScope st) .none kV doc pm an (.ref cd) ct), osl⟩) (c : PySem.W.codeIn K (.ref cd) x = true) (k : PySem.W.keepIn K (.ref f) = true) : HasC K mg x st cd :=
  ⟨f, oc, od, kV, doc, pm, an, ct, osl, l, c, k, PySem.W.mg_of X G a⟩
end
/-! ### the law's helper that keeps an error -/
/-- its text -/
def IsCaught (en : Str) (st : Stmt) : Prop := ∃ (j : Nat) (p1 p2 p3 p4 p5 p6 p7 p8 p9 p10 p11 p12 p13 p14 : Pos), defBody st =
  [.Assign [.Name "_law_caught_here" p1] (.Constant .none j p2) p3, .Try [.Expr (.Call (.Name "_law_ask" p4) [] [] p5) p6] [.ExceptHandler (some (.Name "AimError" p7)) (some en) [.Assign [.Name "_law_caught_here" p8] (.Name en p9) p10] p11] [] [] p12, .Return (some (.Name "_law_caught_here" p13)) p14]
/-- .. en: the name it gives the error -/
structure CauN (K : PySem.W.Frag) (mg : Str → Option Value) (st : Stmt) (AE : Addr) (en : Str) : Prop where
  nm : en = "error" ∨ en = "_law_error"
  has : Has K mg "_law_caught" st
  txt : IsCaught en st
  sc : FnScope ["_law_ask", "_law_caught_here", en] ["_law_ask"] (defScope st)
  s1 : (defScope st).names.lookup ("AimError" : Str) = some .globalImplicit
  s2 : (defScope st).names.lookup ("_law_caught_here" : Str) = some .local
  s3 : (defScope st).names.lookup en = some .local
  s4 : (defScope st).names.lookup ("_law_ask" : Str) = some .local
  hb : ∀ (kV doc pm : Value) (an : Option Addr) (cdv ct : Value) (us : List Value), us.length = 1 → bindArgs (PySem.W.fnOf "_law_caught" "_law_caught" (defArgs st) (defBody st) (defScope st) .none kV doc pm an cdv ct) ⟨us, []⟩ = pure ((["_law_ask"] : List Str).zip us)
  m : mg "AimError" = some (.ref AE)
def CauT (K : PySem.W.Frag) (mg : Str → Option Value) (st : Stmt) (AE : Addr) : Prop := ∃ en, CauN K mg st AE en
section
variable {X : Cx}
theorem pe_caught {T : List (Addr × Str)} {st : Stmt} {AE c Pt : Addr} {k : Nat} {params : Arguments} {body : Expr} {scope : Scope} {t : XK → TE} {p lpos pos : Pos} (U : CauT X.K X.mg st AE) (hg : Gl X "_law_caught")
    (TB : TabB X.base X.mg c Pt) (hcode : X.env.code = .ref c) (hmT : (Pt, X.env.qual ++ "<lambda>") ∈ T) (hu : ∀ p ∈ T, p.1 = Pt → p.2 = X.env.qual ++ "<lambda>") (hr : Room (k + 2) X.A) (L : LamX.LamS X.env.scope scope) (hdef : defaultsOf params X.env = ([], []))
    (hbind : ∀ (q : Str) (cl : List (Str × Addr)) (pm cv ctv : Value), bindArgs (PySem.W.kla_fn "<lambda>" q params body scope cl pm cv ctv) ⟨[], []⟩ = pure [])
    (hbody : ∀ (A : Around) (outer : List Env) (s : Shared) (H : Hp) (E : XK) (f c' : Addr), Room k (A.deeper (LamX.lamEnv X scope s.heap.objs.size f c')) → PE (LamX.lamCx X A outer s H E scope f c') body (t E)) :
    PE X (.Call (.Name "_law_caught" p) [.Lambda params body scope lpos] [] pos) (LamX.tLam T (TTc X.K AE) t) := by
  obtain ⟨en, U⟩ := U
  obtain ⟨g, fd, F, hm⟩ := U.has.ex
  obtain ⟨oc, od, kV, doc, pm, an, cdv, ct, osl, e1, lk, hcd⟩ := id F.ex
  subst e1
  have hbi := F.binds (ps := ["_law_ask"]) U.hb
  obtain ⟨j, p1, p2, p3, p4, p5, p6, p7, p8, p9, p10, p11, p12, p13, p14, hbd⟩ := U.txt
  rw [hbd] at lk hbi
  have hen := U.nm
  rcases hen with rfl | rfl
  · exact LamX.pe_lamcall hg hm F.kp lk hcd hbi U.sc rfl (.inl U.s4) (caught_gives U.s1 U.m (by decide) U.s2 U.s3 (by decide +kernel) (by decide) (by decide) (by decide) (by decide)) TB hcode hmT hu hr L hdef hbind hbody
  · exact LamX.pe_lamcall hg hm F.kp lk hcd hbi U.sc rfl (.inl U.s4) (caught_gives U.s1 U.m (by decide) U.s2 U.s3 (by decide +kernel) (by decide) (by decide) (by decide) (by decide)) TB hcode hmT hu hr L hdef hbind hbody
end
end Aim

namespace Aim
open PySem PySem.Spec PyProof.Rows L2
/-! ### what the written part says of the error classes -/
section
variable {P : Program} {K : PySem.W.Frag} {mg : Str → Option Value}
theorem aimI_mk {st : Stmt} {f D : Addr} (txt : IsInit st) {oc kV doc pm ct ccl cl : Value} {od an cdd cld : Option Addr} {osl ccs csl : Array (Option Value)} {cc cda : Addr} {vs : Array Value} {file : Str} {tf : Tok} {cdD : ClassData}
    (l : K.lookup f = some ⟨oc, od, .func (PySem.W.fnX "__init__" "AimError.__init__" (defArgs st) (defBody st) (defScope st) [("__class__", cc)] .none kV doc pm an (.ref cda) ct), osl⟩) (c : PySem.W.codeIn K (.ref cda) "AimError.__init__" = true)
    (lc : K.lookup cda = some ⟨ccl, cdd, .fields vs, ccs⟩) (e1 : vs[2]? = some (.str file tf)) (e2 : ((P.main.file : Str) == file) = true) (lcc : K.lookup cc = some ⟨cl, cld, .cell (some (.ref D)), csl⟩) (hD : PySem.W.clsIn K D = some cdD)
    (tI : PySem.W.typeIn K (.ref f) = some (.type "function")) (top : (P.main.scope.names.lookup ("super" : Str)).isSome = false) (third : PySem.W.nsIn K cStatics "thirdparty.any" = some none) : AimI P K st f D :=
  ⟨txt, ⟨oc, od, an, osl, kV, doc, pm, ct, cc, cda, ccl, cl, cdd, cld, ccs, csl, vs, file, tf, cdD, l, c, lc, e1, e2, lcc, hD⟩, tI, top, third⟩
theorem aimC_mk {f D C : Addr} {nm qn : Str} {N : Addr} {bs bm : List Value} {sn sub ab col dd k0 k1 k2 k3 k5} (l : K.lookup C = some (excClassObj nm qn C N bs bm true sn sub ab col dd k0 k1 k2 k3 k5 "ValueError.__new__")) (hbm : PySem.HandSPX.refsVE bm = true)
    (sa : PySem.W.findIn K (.ref C) "__setattr__" = some (some (.builtin "object.__setattr__"))) (exC : PySem.W.subIn K (.ref C) (.type "BaseException") = some true) (tyC : PySem.W.typeIn K (.ref C) = some (.type "type")) (kC : PySem.W.keepIn K (.ref C) = true)
    (ga : PySem.W.findIn K (.ref C) "__getattribute__" = some (some (.builtin "BaseException.__getattribute__"))) (gg : PySem.W.findIn K (.ref C) "__getattr__" = some none) (hdC : PySem.W.hasDictIn K C = true)
    (sb : PySem.W.mroIn K C (.ref D) = some true) (sup : PySem.W.ks_superIn K C D "__init__" = some (some (.builtin "ValueError.__init__"))) (ve : PySem.W.subIn K (.ref C) (.type "ValueError") = some true) (nv : PySem.W.findIn K (.ref C) "value" = some none)
    (ini : PySem.W.findIn K (.ref C) "__init__" = some (some (.ref f))) (own : PySem.W.findIn K (.ref C) "__class__" = some (some (.builtin "object.__class__"))) (get : PySem.W.specialIn K (.builtin "object.__class__") "__get__" = some (some (.builtin "getset_descriptor.__get__")))
    (tak : PySem.W.takesIn K (.builtin "object.__class__") = some true) (obj : PySem.W.mroIn K C (.type "object") = some true) : AimC K f D C :=
  { cls := ⟨_, _, _, _, _, _, _, _, _, _, _, _, _, _, _, l, hbm⟩, sa := sa, exC := exC, tyC := tyC, kC := kC, ga := ga, gg := gg, hdC := hdC, sub := sb, sup := sup, ve := ve, nv := nv, ini := ini, own := own, get := get, tak := tak, obj := obj }
end
end Aim

namespace Aim
open PySem PySem.Spec PyProof.Rows L2
/-! ### tuples that bear no dict: a method of theirs is looked up in their type alone -/
/-- the tuple xs at a, without a dict -/
def SqN (K : PySem.W.Frag) (H : Hp) (a : Addr) (xs : List V) : Prop := (∃ o : Obj, H a = some (.frz o (.tup xs)) ∧ o.dict = none) ∨
  ∃ (o : Obj) (its : Array Value) (n : Nat), K.lookup a = some o ∧ o.cls = .type "tuple" ∧ o.dict = none ∧ o.data = .seq its n ∧ its.size ≤ sizeLine ∧ Vals xs its.toList
theorem SqN.sqT {K : PySem.W.Frag} {H : Hp} {a : Addr} {xs : List V} (h : SqN K H a xs) : SqT K H a xs := by
  rcases h with ⟨o, h, _⟩ | ⟨o, its, n, h1, h2, _, h3, h4, h5⟩
  · exact .inl (.inr ⟨o, h⟩)
  · exact .inr ⟨o, its, n, h1, h2, h3, h4, h5⟩
/-- a new tuple -/
def NewT (H : Hp) (Q : VK) (xs : List V) : Prop := ∀ (p : Addr) (o : Obj), H p = none → o.dict = none → Q (.ref p) (upd H p (.frz o (.tup xs)))
theorem SqN.is {X : Cx} {pins : List (Addr × Obj)} {σ : L2.St} {H : Hp} {s : Shared} {a : Addr} {xs : List V} (I : Inv X pins σ H s) (h : SqN X.K H a xs) : s.TypeIs (.ref a) "tuple" ∧ ∀ b, Value.ref a = .ref b → ∃ ob, s.heap.get? b = some ob ∧ ob.dict = none := by
  obtain ⟨its, r, pl, hz⟩ := I.tuple h.sqT
  obtain ⟨ob, ho, hc, n, hd⟩ := pl
  refine ⟨⟨ob, ho, hc⟩, fun b e => ?_⟩
  cases e
  rcases h with ⟨o, h, hn⟩ | ⟨o, its', n', hk, _, hn, _⟩
  · obtain ⟨e, _⟩ := (show ObjOk X.prog X.w H s.heap a (.frz o (.tup xs)) from I.hok a _ h)
    exact ⟨o, e, hn⟩
  · exact ⟨o, I.kIn _ o hk, hn⟩
section
variable {X : Cx} {e o : Expr} {es : List Expr} {pos cpos apos : Pos} {t : TA} {ta tb te to : TE}
theorem laidN {pins : List (Addr × Obj)} {σ : L2.St} {H : Hp} {s : Shared} {Q : VK} {xs : List V} {its : List Value} (I : Inv X pins σ H s) (z : xs.length ≤ sizeLine) (r : Vals xs its) (q : NewT H Q xs) : EP X pins σ Q (.ref s.heap.objs.size) { s with heap := s.heap.push { cls := .type "tuple", data := .seq its.toArray } } :=
  ⟨.ref s.heap.objs.size, upd H s.heap.objs.size (.frz { cls := .type "tuple", data := .seq its.toArray } (.tup xs)), I.laid (t' := s.toks) (fun b u e => Heap.get?_push_of_some _ e) (Nat.le_refl _) ⟨Heap.get?_push_size _ rfl, z, its, r, IsTup.new _ _⟩, rfl, q _ _ (I.hok.fresh (Nat.le_refl _)) rfl⟩
def tTupN (t : TA) : TE := fun σ H Q => t σ H fun xs H1 => xs.length ≤ sizeLine ∧ NewT H1 Q xs
theorem pe_tupN {x1} (h : PA X es t) : PE X (.Tuple es x1 pos) (tTupN t) := by
  refine ⟨fun pins s σ H Q I hq => ?_⟩
  refine wpAny_Tuple_spliced (thn (h.run pos pins s σ H _ I hq) fun us s1 ⟨xs, H1, I1, r, z, q⟩ => ⟨by rw [← r.length]; exact z, ?_⟩)
  exact laidN I1 z r q
/-! t + u -/
def rCatN (K : PySem.W.Frag) : R2 := fun x y H Q => ∃ a b xs ys, x = .ref a ∧ y = .ref b ∧ SqT K H a xs ∧ SqT K H b ys ∧ xs.length + ys.length ≤ sizeLine ∧
  (xs = [] → Q (.ref b) H) ∧ (xs ≠ [] → ys = [] → Q (.ref a) H) ∧ (xs ≠ [] → ys ≠ [] → NewT H Q (xs ++ ys))
theorem op_catN : OpR X (binaryOp .Add) (rCatN X.K) := by
  intro pins s σ H x y v u Q I rx ry h
  obtain ⟨a, b, xs, ys, rfl, rfl, ha, hb, hz, q0, q1, q2⟩ := h
  by_cases hx : xs = []
  · exact op_catA pins s σ H _ _ v u Q I rx ry ⟨a, b, xs, ys, rfl, rfl, ha, hb, hz, q0, q1, fun z => absurd hx z⟩
  · cases rx
    cases ry
    obtain ⟨its, r1, p1, _⟩ := I.tuple ha
    obtain ⟨its2, r2, p2, _⟩ := I.tuple hb
    refine HT.cat_tup p1 p2 (fun z => hx (r1.nil_iff.mp z)) (fun z => ⟨.ref a, H, I, rfl, q1 hx (r2.nil_iff.mp z)⟩) (fun z => ?_) (by rw [← r1.length, ← r2.length]; exact hz)
    exact laidN I (by rw [List.length_append]; exact hz) (r1.append r2) (q2 hx fun w => z (r2.nil_iff.mpr w))
/-! t[lo:hi] -/
def rSlN (K : PySem.W.Frag) : V → Option Int → Option Int → Hp → VK → Prop := fun x lo hi H Q => ∃ a xs, x = .ref a ∧ SqT K H a xs ∧
  (HT.sIx xs.length 0 lo = 0 ∧ HT.sIx xs.length xs.length hi = xs.length → Q (.ref a) H) ∧ (¬ (HT.sIx xs.length 0 lo = 0 ∧ HT.sIx xs.length xs.length hi = xs.length) → NewT H Q (cutV xs lo hi))
theorem sl_tupN : SlR X (rSlN X.K) := by
  intro pins s σ H x v vl vu lo hi sl Q I rx hs pl pu h
  obtain ⟨a, xs, rfl, hx, q1, q2⟩ := h
  by_cases hw : HT.sIx xs.length 0 lo = 0 ∧ HT.sIx xs.length xs.length hi = xs.length
  · exact sl_tupA pins s σ H _ v vl vu lo hi sl Q I rx hs pl pu ⟨a, xs, rfl, hx, q1, fun z => absurd hw z⟩
  · cases rx
    obtain ⟨its, r, ht, hz⟩ := I.tuple hx
    have hlen : its.toArray.size = xs.length := by rw [List.size_toArray]; exact r.length.symm
    refine ⟨"tuple", _, PyProof.Rows.slot_tuple_getitem.lookup, ht.typeIs, ?_⟩
    refine HT.getItem_tuple_cut ht hs pl pu (by rw [hlen]; exact hw) ?_ (by rw [hlen]; exact hz)
    rw [hlen]
    exact laidN I (Nat.le_trans (cutV_length xs lo hi) hz) ((r.drop (HT.sIx xs.length 0 lo)).take (HT.sIx xs.length xs.length hi - HT.sIx xs.length 0 lo)) (q2 hw)
/-! tuple(x) -/
theorem call_tupleN : CallR X (.type "tuple") (fun xs H Q => ∃ p ys, xs = [.ref p] ∧ ((SqL X.K H p ys ∧ NewT H Q ys) ∨ (SqT X.K H p ys ∧ Q (.ref p) H))) := by
  intro pins s σ H xs us Q I r h
  obtain ⟨p, ys, rfl, h⟩ := h
  obtain ⟨u, rfl, rx⟩ := vals1 r
  cases rx
  rcases h with ⟨hq, q⟩ | ⟨hq, q⟩
  · obtain ⟨its, r', pl, hz⟩ := I.list hq
    have hlen := r'.length
    refine call_tuple_list pl.isList (fun h' kp => ?_) (by simp only [List.size_toArray] <;> omega)
    have I1 : Inv X pins σ H { s with heap := h' } := I.kept (t' := s.toks) kp
    have I2 : Inv X pins σ (upd H h'.objs.size (.frz { cls := .type "tuple", data := .seq its.toArray } (.tup ys))) { s with heap := h'.push { cls := .type "tuple", data := .seq its.toArray } } :=
      I1.laid (t' := s.toks) (fun b o e => Heap.get?_push_of_some _ e) (Nat.le_refl _) (show ObjOk X.prog X.w _ _ _ (.frz _ (.tup ys)) from ⟨Heap.get?_push_size _ rfl, hz, its, r', IsTup.new _ _⟩)
    exact ⟨.ref h'.objs.size, _, I2, rfl, q _ _ (I1.hok.fresh (Nat.le_refl _)) rfl⟩
  · obtain ⟨its, r', pl, hz⟩ := I.tuple hq
    exact call_tuple_same pl ⟨.ref p, H, I, rfl, q⟩
/-! t.m(e, ..) -/
def tBMN (K : PySem.W.Frag) (r : V → List V → Hp → VK → Prop) (to : TE) (t : TA) : TE := fun σ H Q => to σ H fun x H1 => (∃ p xs, x = .ref p ∧ SqN K H1 p xs) ∧ t σ H1 fun xs H2 => r x xs H2 Q
theorem pe_bmN {name : Str} {id : String} {r : V → List V → Hp → VK → Prop} (slot : Slot "tuple" name id) (hty : typeOf (.builtin id) = pure (.type "method_descriptor")) (hm : MtR X id r) (ho : PE X o to) (ha : PA X (e :: es) t)
    (hbase : attributeBase o name X.env (eval o X.env) = eval o X.env := by rfl)
    (hfew : ((backTo cpos (starEach (e :: es) X.env)).all (fun x => !x.1) && (backToKw cpos (keywordEach [] X.env)).all (fun x => x.1.isSome)
      && decide ((e :: es).length + ([] : List Keyword).length + (if ([] : List Keyword).isEmpty then 0 else 1) < 30)) = true := by rfl)
    (hline : (apos.endLine == cpos.line) = true := by rfl) (hs : starEach (e :: es) X.env = (false, eval e X.env) :: starEach es X.env := by rfl) (hplain : (backTo cpos (starEach es X.env)).any (·.1) = false := by rfl) :
    PE X (.Call (.Attribute o name apos) (e :: es) [] cpos) (tBMN X.K r to t) := by
  refine ⟨fun pins s σ H Q I h => ?_⟩
  refine wpAny_Call_method_late hbase hfew hline rfl (thn (ho.run pins s σ H _ I h) fun v s1 ⟨x, H1, I1, r1, ty, q1⟩ => ?_)
  obtain ⟨p, xs, ex, hq⟩ := ty
  subst ex
  obtain rfl : v = Value.ref p := r1
  obtain ⟨h1, h2⟩ := hq.is I1
  refine ⟨"tuple", id, PySem.F.plainAttrs_tuple, slot, hty, h1, h2, ?_⟩
  have hA := ha.run cpos pins s1 σ H1 _ I1 q1
  rw [hs] at hA ⊢
  refine Calls.callWith_builtin (by show (false || (backTo cpos (starEach es X.env)).any (·.1)) = false; rw [hplain] <;> rfl) (Calls.evalArgs_plain ?_)
  exact thn hA fun us s2 ⟨vs, H2, I2, r2, q2⟩ => hm pins s2 σ H2 (.ref p) vs (.ref p) us Q I2 rfl r2 q2
end
/-! ### zip: its pairs -/
section
open RZ
def ItzN (K : PySem.W.Frag) (a b : Addr) : It :=
  ⟨fun i H => ∃ (xs ys : List V) (x y : V), SqL K H a xs ∧ SqL K H b ys ∧ xs[i]? = some x ∧ ys[i]? = some y,
    fun i H v H' => ∃ (T : Addr) (o : Obj) (x y : V), v = .ref T ∧ H T = none ∧ o.dict = none ∧ H' = upd H T (.frz o (.tup [x, y])) ∧ (∀ xs, SqL K H a xs → xs[i]? = some x) ∧ ∀ ys, SqL K H b ys → ys[i]? = some y,
    fun i H => ∃ xs ys : List V, SqL K H a xs ∧ SqL K H b ys ∧ (xs.length ≤ i ∨ ys.length ≤ i)⟩
theorem turn_zipN {P : Program} {w : World} {K : PySem.W.Frag} {elts : List Expr} {kk : Nat} {tpos : Pos} {a b z TI TO i1 i2 : Addr} (D : ZipApart z TI TO i1 i2 a b) :
    Turn P w K (.Tuple elts kk tpos) (ItzN K a b) [z, TI, TO, i1, i2] z (fun i h => IsZip h z TI TO .none ∧ IsPair h TI (.ref i1) (.ref i2) ∧ (∃ x y, IsPair h TO x y) ∧ h.IsListIter i1 a i ∧ h.IsListIter i2 b i) where
  mem := by simp
  obj := fun i h st c hc => by
    obtain ⟨hz, hTI, ⟨x, y, hTO⟩, ⟨o1, e1, _, d1⟩, ⟨o2, e2, _, d2⟩⟩ := st
    have e' : c = z ∨ c = TI ∨ c = TO ∨ c = i1 ∨ c = i2 := by simpa using hc
    rcases e' with q | q | q | q | q
    · rw [q]; exact ⟨_, hz, fun v q => nomatch q⟩
    · rw [q]; exact ⟨_, hTI, fun v q => nomatch q⟩
    · rw [q]; exact ⟨_, hTO, fun v q => nomatch q⟩
    · rw [q]; exact ⟨o1, e1, fun v q => by rw [d1] at q; cases q⟩
    · rw [q]; exact ⟨o2, e2, fun v q => by rw [d2] at q; cases q⟩
  keep := fun i h h' st k => by
    obtain ⟨hz, hTI, ⟨x, y, hTO⟩, h1, h2⟩ := st
    exact ⟨k z (by simp) _ hz, k TI (by simp) _ hTI, ⟨x, y, k TO (by simp) _ hTO⟩, h1.at fun o q => k i1 (by simp) o q, h2.at fun o q => k i2 (by simp) o q⟩
  item := by
    intro X hP hw hK hc i pins s σ H E I hf st hg
    subst hP hw hK
    obtain ⟨hz, hTI, ⟨x0, y0, hTO⟩, h1, h2⟩ := st
    obtain ⟨xs, ys, x, y, hqx, hqy, hx, hy⟩ := hg
    obtain ⟨its, rv, p, _⟩ := I.list hqx
    obtain ⟨its2, rv2, p2, _⟩ := I.list hqy
    obtain ⟨u, hu, ru⟩ := rv.get hx
    obtain ⟨u2, hu2, ru2⟩ := rv2.get hy
    have hzl : z < s.heap.objs.size := Heap.lt_size hz
    refine wpAny_pyNext_zip_item D hz hTI hTO h1 h2 p.isList p2.isList (x := u) (y := u2) (by simpa using hu) (by simpa using hu2) fun h' z' TO' h1' h2' hT hsz hk => ?_
    refine ⟨_, rfl, wpAny_letOwnedTupleGo_zip (s := { s with heap := h' }) z' fun h'' z'' sb => ?_⟩
    have hT2 : h''.get? s.heap.objs.size = some { cls := .type "tuple", data := .seq #[u, u2] } := (sb.2 _ (Nat.ne_of_gt hzl)).trans hT
    have new : ObjOk X.prog X.w (upd H s.heap.objs.size (.frz { cls := .type "tuple", data := .seq #[u, u2] } (.tup [x, y]))) h'' s.heap.objs.size (.frz { cls := .type "tuple", data := .seq #[u, u2] } (.tup [x, y])) :=
      ⟨hT2, by show 2 ≤ sizeLine; decide, [u, u2], .cons ru (.cons ru2 .nil), ⟨_, hT2, rfl, _, rfl⟩⟩
    have I1 : Inv X pins σ (upd H s.heap.objs.size (.frz { cls := .type "tuple", data := .seq #[u, u2] } (.tup [x, y]))) { s with heap := h'' } :=
      I.turnedNew (t' := s.toks) (ch := [z, TI, TO, i1, i2]) (fun c o hb q => (sb.2 c (fun q' => hb (by simp [q']))).trans (hk c o (fun q' => hb (by simp [q'])) (fun q' => hb (by simp [q'])) (fun q' => hb (by simp [q'])) (fun q' => hb (by simp [q'])) q)) hf (Nat.le_refl _) new
    refine ⟨.ref s.heap.objs.size, _, I1, rfl, ⟨_, _, x, y, rfl, I.hok.fresh (Nat.le_refl _), rfl, rfl, fun l hl => by rw [I.list_inj hl hqx]; exact hx, fun l hl => by rw [I.list_inj hl hqy]; exact hy⟩, ⟨z'', ?_, ⟨u, u2, ?_⟩, ?_, ?_⟩, fun c hcm => ?_⟩
    · exact (sb.2 _ D.TIz).trans (hk _ _ D.TIz D.TITO D.TIi1 D.TIi2 hTI)
    · exact (sb.2 _ D.TOz).trans TO'
    · exact h1'.at fun o q => (sb.2 _ D.i1z).trans q
    · exact h2'.at fun o q => (sb.2 _ D.i2z).trans q
    · have hlt : c < s.heap.objs.size := by
        have e' : c = z ∨ c = TI ∨ c = TO ∨ c = i1 ∨ c = i2 := by simpa using hcm
        rcases e' with q | q | q | q | q
        · rw [q]; exact hzl
        · rw [q]; exact Heap.lt_size hTI
        · rw [q]; exact Heap.lt_size hTO
        · rw [q]; obtain ⟨_, e1, _⟩ := h1; exact Heap.lt_size e1
        · rw [q]; obtain ⟨_, e2, _⟩ := h2; exact Heap.lt_size e2
      rw [upd_ne (Nat.ne_of_lt hlt)]
      exact (hf c hcm).1
  done := by
    intro X hP hw hK hc i pins s σ H E I hf st hg
    subst hP hw hK
    obtain ⟨hz, hTI, ⟨x0, y0, hTO⟩, h1, h2⟩ := st
    obtain ⟨xs, ys, hqx, hqy, hend⟩ := hg
    obtain ⟨its, rv, p, _⟩ := I.list hqx
    obtain ⟨its2, rv2, p2, _⟩ := I.list hqy
    have l1 := rv.length
    have l2 := rv2.length
    have he : its.toArray[i]? = none ∨ its2.toArray[i]? = none := by
      rcases hend with q | q
      · exact .inl (by simp; omega)
      · exact .inr (by simp; omega)
    exact wpAny_pyNext_zip_end (I.ok.hd hc) D hz hTI hTO h1 h2 p.isList p2.isList he fun h' hk => ⟨rfl, I.turnedL (t' := s.toks) (ch := [z, TI, TO, i1, i2]) (fun c o hb q =>
      hk c o (fun q' => hb (by simp [q'])) (fun q' => hb (by simp [q'])) (fun q' => hb (by simp [q'])) (fun q' => hb (by simp [q'])) q) hf⟩
  self := fun A i s Q E st h => wpAny_pyIter_zip st.1 h
def ItzTN (K : PySem.W.Frag) (a b : Addr) : It :=
  ⟨fun i H => ∃ (xs ys : List V) (x y : V), SqT K H a xs ∧ SqT K H b ys ∧ xs[i]? = some x ∧ ys[i]? = some y,
    fun i H v H' => ∃ (T : Addr) (o : Obj) (x y : V), v = .ref T ∧ H T = none ∧ o.dict = none ∧ H' = upd H T (.frz o (.tup [x, y])) ∧ (∀ xs, SqT K H a xs → xs[i]? = some x) ∧ ∀ ys, SqT K H b ys → ys[i]? = some y,
    fun i H => ∃ xs ys : List V, SqT K H a xs ∧ SqT K H b ys ∧ (xs.length ≤ i ∨ ys.length ≤ i)⟩
theorem turn_zipTN {P : Program} {w : World} {K : PySem.W.Frag} {elts : List Expr} {kk : Nat} {tpos : Pos} {a b z TI TO i1 i2 : Addr} (D : ZipApart z TI TO i1 i2 a b) :
    Turn P w K (.Tuple elts kk tpos) (ItzTN K a b) [z, TI, TO, i1, i2] z (fun i h => IsZip h z TI TO .none ∧ IsPair h TI (.ref i1) (.ref i2) ∧ (∃ x y, IsPair h TO x y) ∧ h.IsTupleIter i1 a i ∧ h.IsTupleIter i2 b i) where
  mem := by simp
  obj := fun i h st c hc => by
    obtain ⟨hz, hTI, ⟨x, y, hTO⟩, ⟨o1, e1, _, d1⟩, ⟨o2, e2, _, d2⟩⟩ := st
    have e' : c = z ∨ c = TI ∨ c = TO ∨ c = i1 ∨ c = i2 := by simpa using hc
    rcases e' with q | q | q | q | q
    · rw [q]; exact ⟨_, hz, fun v q => nomatch q⟩
    · rw [q]; exact ⟨_, hTI, fun v q => nomatch q⟩
    · rw [q]; exact ⟨_, hTO, fun v q => nomatch q⟩
    · rw [q]; exact ⟨o1, e1, fun v q => by rw [d1] at q; cases q⟩
    · rw [q]; exact ⟨o2, e2, fun v q => by rw [d2] at q; cases q⟩
  keep := fun i h h' st k => by
    obtain ⟨hz, hTI, ⟨x, y, hTO⟩, h1, h2⟩ := st
    exact ⟨k z (by simp) _ hz, k TI (by simp) _ hTI, ⟨x, y, k TO (by simp) _ hTO⟩, h1.at fun o q => k i1 (by simp) o q, h2.at fun o q => k i2 (by simp) o q⟩
  item := by
    intro X hP hw hK hc i pins s σ H E I hf st hg
    subst hP hw hK
    obtain ⟨hz, hTI, ⟨x0, y0, hTO⟩, h1, h2⟩ := st
    obtain ⟨xs, ys, x, y, hqx, hqy, hx, hy⟩ := hg
    obtain ⟨its, rv, p, _⟩ := I.tuple hqx
    obtain ⟨its2, rv2, p2, _⟩ := I.tuple hqy
    obtain ⟨u, hu, ru⟩ := rv.get hx
    obtain ⟨u2, hu2, ru2⟩ := rv2.get hy
    have hzl : z < s.heap.objs.size := Heap.lt_size hz
    refine pyNext_zipT_item D hz hTI hTO h1 h2 p p2 (x := u) (y := u2) (by simpa using hu) (by simpa using hu2) fun h' z' TO' h1' h2' hT hsz hk => ?_
    refine ⟨_, rfl, wpAny_letOwnedTupleGo_zip (s := { s with heap := h' }) z' fun h'' z'' sb => ?_⟩
    have hT2 : h''.get? s.heap.objs.size = some { cls := .type "tuple", data := .seq #[u, u2] } := (sb.2 _ (Nat.ne_of_gt hzl)).trans hT
    have new : ObjOk X.prog X.w (upd H s.heap.objs.size (.frz { cls := .type "tuple", data := .seq #[u, u2] } (.tup [x, y]))) h'' s.heap.objs.size (.frz { cls := .type "tuple", data := .seq #[u, u2] } (.tup [x, y])) :=
      ⟨hT2, by show 2 ≤ sizeLine; decide, [u, u2], .cons ru (.cons ru2 .nil), ⟨_, hT2, rfl, _, rfl⟩⟩
    have I1 : Inv X pins σ (upd H s.heap.objs.size (.frz { cls := .type "tuple", data := .seq #[u, u2] } (.tup [x, y]))) { s with heap := h'' } :=
      I.turnedNew (t' := s.toks) (ch := [z, TI, TO, i1, i2]) (fun c o hb q => (sb.2 c (fun q' => hb (by simp [q']))).trans (hk c o (fun q' => hb (by simp [q'])) (fun q' => hb (by simp [q'])) (fun q' => hb (by simp [q'])) (fun q' => hb (by simp [q'])) q)) hf (Nat.le_refl _) new
    refine ⟨.ref s.heap.objs.size, _, I1, rfl, ⟨_, _, x, y, rfl, I.hok.fresh (Nat.le_refl _), rfl, rfl, fun l hl => by rw [I.tuple_inj hl hqx]; exact hx, fun l hl => by rw [I.tuple_inj hl hqy]; exact hy⟩, ⟨z'', ?_, ⟨u, u2, ?_⟩, ?_, ?_⟩, fun c hcm => ?_⟩
    · exact (sb.2 _ D.TIz).trans (hk _ _ D.TIz D.TITO D.TIi1 D.TIi2 hTI)
    · exact (sb.2 _ D.TOz).trans TO'
    · exact h1'.at fun o q => (sb.2 _ D.i1z).trans q
    · exact h2'.at fun o q => (sb.2 _ D.i2z).trans q
    · have hlt : c < s.heap.objs.size := by
        have e' : c = z ∨ c = TI ∨ c = TO ∨ c = i1 ∨ c = i2 := by simpa using hcm
        rcases e' with q | q | q | q | q
        · rw [q]; exact hzl
        · rw [q]; exact Heap.lt_size hTI
        · rw [q]; exact Heap.lt_size hTO
        · rw [q]; obtain ⟨_, e1, _⟩ := h1; exact Heap.lt_size e1
        · rw [q]; obtain ⟨_, e2, _⟩ := h2; exact Heap.lt_size e2
      rw [upd_ne (Nat.ne_of_lt hlt)]
      exact (hf c hcm).1
  done := by
    intro X hP hw hK hc i pins s σ H E I hf st hg
    subst hP hw hK
    obtain ⟨hz, hTI, ⟨x0, y0, hTO⟩, h1, h2⟩ := st
    obtain ⟨xs, ys, hqx, hqy, hend⟩ := hg
    obtain ⟨its, rv, p, _⟩ := I.tuple hqx
    obtain ⟨its2, rv2, p2, _⟩ := I.tuple hqy
    have l1 := rv.length
    have l2 := rv2.length
    have he : its.toArray[i]? = none ∨ its2.toArray[i]? = none := by
      rcases hend with q | q
      · exact .inl (by simp; omega)
      · exact .inr (by simp; omega)
    exact pyNext_zipT_end (I.ok.hd hc) D hz hTI hTO h1 h2 p p2 he fun h' hk => ⟨rfl, I.turnedL (t' := s.toks) (ch := [z, TI, TO, i1, i2]) (fun c o hb q =>
      hk c o (fun q' => hb (by simp [q'])) (fun q' => hb (by simp [q'])) (fun q' => hb (by simp [q'])) (fun q' => hb (by simp [q'])) q) hf⟩
  self := fun A i s Q E st h => wpAny_pyIter_zip st.1 h

def iZipN (K : PySem.W.Frag) (ta : TA) : TI := fun σ H R => ta σ H fun vs H1 => ∃ a b xs ys, vs = [.ref a, .ref b] ∧ ((SqL K H1 a xs ∧ SqL K H1 b ys ∧ R (ItzN K a b) H1) ∨ (SqT K H1 a xs ∧ SqT K H1 b ys ∧ R (ItzTN K a b) H1))
theorem pi_zipN {X : Cx} {e e2 : Expr} {ta : TA} {p pos tpos : Pos} {elts : List Expr} {kk : Nat} (hg : Gl X "zip") (hm : X.mg "zip" = none) (ha : PA X [e, e2] ta)
    (hs : starEach [e, e2] X.env = (false, eval e X.env) :: starEach [e2] X.env := by rfl) (hpl : (backTo pos (starEach [e2] X.env)).any (·.1) = false := by rfl) :
    PI X (.Tuple elts kk tpos) (.Call (.Name "zip" p) [e, e2] [] pos) (iZipN X.K ta) := by
  refine ⟨fun pins s σ H R I h => ?_⟩
  refine Call_ (ld_blt I hg hm PyProof.Rows.boot_zip (PyProof.Rows.callWith_type1 (thn (ha.run pos pins s σ H _ I h) fun us s1 ⟨vs, H1, I1, r1, q1⟩ => ?_) hs hpl))
  obtain ⟨a, b, xs, ys, ex, q1⟩ := q1
  subst ex
  cases r1 with
  | cons r rr =>
    cases rr with
    | cons r' rr =>
      cases rr
      cases r
      cases r'
      have fresh5 : ∀ c, c ∈ [s1.heap.objs.size + 4, s1.heap.objs.size + 2, s1.heap.objs.size + 3, s1.heap.objs.size, s1.heap.objs.size + 1] → FpOk X pins H1 c := fun c hcm => by
        have e' : c = s1.heap.objs.size + 4 ∨ c = s1.heap.objs.size + 2 ∨ c = s1.heap.objs.size + 3 ∨ c = s1.heap.objs.size ∨ c = s1.heap.objs.size + 1 := by simpa using hcm
        have hle : s1.heap.objs.size ≤ c := by
          rcases e' with z | z | z | z | z
          · rw [z]; exact Nat.le_add_right _ _
          · rw [z]; exact Nat.le_add_right _ _
          · rw [z]; exact Nat.le_add_right _ _
          · rw [z]; exact Nat.le_refl _
          · rw [z]; exact Nat.le_add_right _ _
        exact I1.fpOk hle (I1.hok.fresh hle)
      rcases q1 with ⟨hqx, hqy, q⟩ | ⟨hqx, hqy, q⟩
      · obtain ⟨its, rv, p1, _⟩ := I1.list hqx
        obtain ⟨its2, rv2, p2, _⟩ := I1.list hqy
        refine call_zip_2 p1.isList p2.isList fun h' hz hTI hTO h1 h2 hsz hk => wpAny_pyIter_zip hz ?_
        have I2 : Inv X pins σ H1 { s1 with heap := h' } := I1.kept (t' := s1.toks) hk
        exact ⟨s1.heap.objs.size + 4, [s1.heap.objs.size + 4, s1.heap.objs.size + 2, s1.heap.objs.size + 3, s1.heap.objs.size, s1.heap.objs.size + 1], _, _, H1, rfl, I2, turn_zipN (PySem.W.ktu_apart s1.heap.objs.size a b p1.lt p2.lt), ⟨hz, hTI, ⟨_, _, hTO⟩, h1, h2⟩, fresh5, q⟩
      · obtain ⟨its, rv, p1, _⟩ := I1.tuple hqx
        obtain ⟨its2, rv2, p2, _⟩ := I1.tuple hqy
        obtain ⟨o1, ho1, _⟩ := id p1
        obtain ⟨o2, ho2, _⟩ := id p2
        refine call_zipT (show s1.heap.IsTuple a its.toArray from p1) (show s1.heap.IsTuple b its2.toArray from p2) fun h' hz hTI hTO h1 h2 hsz hk => wpAny_pyIter_zip hz ?_
        have I2 : Inv X pins σ H1 { s1 with heap := h' } := I1.kept (t' := s1.toks) hk
        exact ⟨s1.heap.objs.size + 4, [s1.heap.objs.size + 4, s1.heap.objs.size + 2, s1.heap.objs.size + 3, s1.heap.objs.size, s1.heap.objs.size + 1], _, _, H1, rfl, I2, turn_zipTN (PySem.W.ktu_apart s1.heap.objs.size a b (Heap.lt_size ho1) (Heap.lt_size ho2)), ⟨hz, hTI, ⟨_, _, hTO⟩, h1, h2⟩, fresh5, q⟩

/-- a new pair of the i-th of xs and the i-th of ys -/
def YPairN (f g : Nat → Option V) : Nat → Hp → V → Hp → Prop := fun i H v H' => ∃ (T : Addr) (o : Obj) (x y : V), v = .ref T ∧ H T = none ∧ o.dict = none ∧ H' = upd H T (.frz o (.tup [x, y])) ∧ f i = some x ∧ g i = some y
variable {K : PySem.W.Frag}
theorem walk_zipN {a b : Addr} {xs ys : List V} {n : Nat} (hn : n = min xs.length ys.length) : Walk (ItzN K a b) n (fun H => SqL K H a xs ∧ SqL K H b ys) (YPairN (fun i => xs[i]?) (fun i => ys[i]?)) := by
  subst hn
  refine ⟨fun i _ hi q => ?_, fun _ q => ⟨xs, ys, q.1, q.2, by omega⟩, fun i H v H' _ q y => ?_⟩
  · have h1 : i < xs.length := by omega
    have h2 : i < ys.length := by omega
    exact ⟨xs, ys, xs[i], ys[i], q.1, q.2, by simp [h1], by simp [h2]⟩
  · obtain ⟨T, o, x, z, h1, h2, h6, h3, h4, h5⟩ := y
    exact ⟨T, o, x, z, h1, h2, h6, h3, h4 xs q.1, h5 ys q.2⟩
theorem walk_zipTN {a b : Addr} {xs ys : List V} {n : Nat} (h1 : n = xs.length) (h2 : n = ys.length) : Walk (ItzTN K a b) n (fun H => SqT K H a xs ∧ SqT K H b ys) (YPairN (fun i => xs[i]?) (fun i => ys[i]?)) := by
  refine ⟨fun i H hi q => ⟨xs, ys, xs[i]'(by omega), ys[i]'(by omega), q.1, q.2, by simp, by simp⟩, fun H q => ⟨xs, ys, q.1, q.2, .inl (by omega)⟩, fun i H v H' _ q y => ?_⟩
  obtain ⟨T, o, x, z, e1, e2, e6, e3, e4, e5⟩ := y
  exact ⟨T, o, x, z, e1, e2, e6, e3, e4 _ q.1, e5 _ q.2⟩
end
end Aim

namespace Aim
open PySem PySem.Spec PyProof.Rows L2
open LamX (TabB Tabs CodeO)
/-! ### sets of texts -/
/-- the members, each once -/
def uniq : List Str → List Str
  | [] => []
  | x :: r => if x ∈ r then uniq r else x :: uniq r
theorem uniq_mem {x : Str} : ∀ {l : List Str}, x ∈ uniq l ↔ x ∈ l
  | [] => Iff.rfl
  | y :: r => by
    unfold uniq
    split
    · rename_i h
      rw [uniq_mem, List.mem_cons]
      exact ⟨.inr, fun z => z.elim (fun e => e ▸ h) id⟩
    · rw [List.mem_cons, List.mem_cons, uniq_mem]
theorem uniq_nodup : ∀ l : List Str, (uniq l).Nodup
  | [] => List.nodup_nil
  | y :: r => by
    unfold uniq
    split
    · exact uniq_nodup r
    · rename_i h
      exact List.nodup_cons.mpr ⟨fun z => h (uniq_mem.mp z), uniq_nodup r⟩
theorem uniq_le : ∀ l : List Str, (uniq l).length ≤ l.length
  | [] => Nat.le_refl _
  | y :: r => by
    unfold uniq
    have := uniq_le r
    split
    · exact Nat.le_succ_of_le this
    · exact Nat.succ_le_succ this
theorem uniq_len : ∀ l : List Str, (uniq l).length = l.length ↔ l.Nodup
  | [] => by simp [uniq]
  | y :: r => by
    have le := uniq_le r
    have ih := uniq_len r
    unfold uniq
    split
    · rename_i h
      rw [List.length_cons, List.nodup_cons]
      exact ⟨fun z => by omega, fun z => absurd h z.1⟩
    · rename_i h
      rw [List.length_cons, List.length_cons, List.nodup_cons, Nat.add_right_cancel_iff, ih]
      exact ⟨fun z => ⟨h, z⟩, fun z => z.2⟩
/-- lists without repeats that have the same members are equally long -/
theorem nodup_len {l r : List Str} (hl : l.Nodup) (hr : r.Nodup) (h : ∀ x, x ∈ l ↔ x ∈ r) : l.length = r.length := ((List.perm_ext_iff_of_nodup hl hr).mpr h).length_eq
def keyS (e : Int × Value) : Str := match e.2 with
  | .str x _ => x
  | _ => ⟨#[]⟩
def GoodS (w : World) (e : Int × Value) : Prop := ∃ x tk, e.2 = Value.str x tk ∧ e.1 = hashStr w x
/-- the set of texts at a: these members, so many -/
def SetS (w : World) (h : Heap) (a : Addr) (S : Str → Bool) (n : Nat) : Prop :=
  ∃ o es ep t, h.get? a = some o ∧ o.ExactSet ∧ o.data = .set es ep t ∧ (∀ e ∈ es.toList, GoodS w e) ∧ (es.toList.map keyS).Nodup ∧ (∀ k, S k = true ↔ k ∈ es.toList.map keyS) ∧
    es.size < scanBound ∧ t.fits es.size = true ∧ es.size = n ∧ Ris t.place.toList ∧ (w.params.followText "set-order" = true ∨ t.led = true)
section
variable {P : Program} {w : World} {h h' : Heap} {a : Addr} {S : Str → Bool} {n : Nat}
theorem SetS.at (R : SetS w h a S n) (k : ∀ o, h.get? a = some o → h'.get? a = some o) : SetS w h' a S n := by
  obtain ⟨o, es, ep, t, ho, r⟩ := R
  exact ⟨o, es, ep, t, k o ho, r⟩
theorem SetS.congr {S' : Str → Bool} (R : SetS w h a S n) (e : ∀ k, S' k = S k) : SetS w h a S' n := by
  have q : S' = S := funext e
  rw [q]; exact R
theorem goodS_elems {l : List (Int × Value)} (g : ∀ e ∈ l, GoodS w e) : ElemsOf (PySem.strKind P w) l := fun e he => by
  obtain ⟨k, tk, h1, h2⟩ := g e he
  exact ⟨⟨k, by rw [h1]; exact PySem.strKind_is P w k tk, h2⟩, by rw [h1] <;> rfl⟩
theorem goodS_is {e : Int × Value} (g : GoodS w e) (k : Str) : (PySem.strKind P w).is k e.2 = true ↔ keyS e = k := by
  obtain ⟨k0, tk, h1, _⟩ := g
  unfold keyS
  rw [h1]
  constructor
  · intro h
    obtain ⟨t, e⟩ := Value.isStrOf_shape (show Value.isStrOf k (Value.str k0 tk) = true from h)
    injection e with e
  · rintro rfl
    exact PySem.strKind_is P w _ _
theorem goodS_mem {l : List (Int × Value)} (g : ∀ e ∈ l, GoodS w e) (k : Str) : k ∈ l.map keyS ↔ ∃ e ∈ l, (PySem.strKind P w).is k e.2 = true := by
  rw [List.mem_map]
  constructor
  · rintro ⟨e, he, q⟩
    exact ⟨e, he, (goodS_is (g e he) k).2 q⟩
  · rintro ⟨e, he, q⟩
    exact ⟨e, he, (goodS_is (g e he) k).1 q⟩
theorem setS_fresh {ho : h.get? a = some { cls := .type "set", dict := none, data := .set #[] 0 (.fresh 0 0 (!w.params.followText "set-order")) }} : SetS w h a (fun _ => false) 0 :=
  ⟨_, #[], 0, _, ho, ⟨rfl, rfl, rfl⟩, rfl, (fun e he => by simp at he), (by simp), (fun k => by simp), (by decide), (by rfl), rfl, List.Pairwise.nil, by
    show _ ∨ (!w.params.followText "set-order") = true
    cases w.params.followText "set-order"
    · exact .inr rfl
    · exact .inl rfl⟩
end
section
variable {P : Program} {w : World} {A : Around} {E : Value → Shared → Prop} {s : Shared} {a : Addr} {S : Str → Bool} {n : Nat}
theorem setS_tail {g : Bool → Sem Unit} (hg : ∀ (b : Bool) (s₁ : Shared) (Q' : Unit → Shared → Prop), Q' () s₁ → wpAny (model P w) A (g b) Q' E s₁)
    {o : Obj} {es : Array (Int × Value)} {ep : Nat} {t : SetTable} (ho : s.heap.get? a = some o) (hex : o.ExactSet) (hd : o.data = .set es ep t)
    {es1 : Array (Int × Value)} {t2 : SetTable} {S' : Str → Bool} (g1 : ∀ e ∈ es1.toList, GoodS w e) (nd1 : (es1.toList.map keyS).Nodup) (m1 : ∀ k, S' k = true ↔ k ∈ es1.toList.map keyS)
    (hb1 : es1.size < scanBound) (hf2 : t2.fits es1.size = true) (hr : Ris t2.place.toList) (hl : w.params.followText "set-order" = true ∨ t2.led = true) {wasDummy : Bool} {R : Option Bool → Shared → Prop}
    (hR : ∀ h', Heap.SameBut a s.heap h' → SetS w h' a S' es1.size → R (some true) { s with heap := h' }) :
    wpAny (model P w) A (do
        storeSet a es1 t2
        if (!wasDummy && t2.tooFull) = true then do
            g (relayAll t2 es1 (SetTable.grown es1.size)).2.2
            storeSet a (relayAll t2 es1 (SetTable.grown es1.size)).1 (relayAll t2 es1 (SetTable.grown es1.size)).2.1
            pure (some true)
          else pure (some true)) R E s := by
  refine wpAny_bind (wpAny_storeSet_of ho hd ?_ (fits_of_scanBound hb1))
  have ho1 := store_at (es' := es1) (t' := t2) ho hd
  have sb1 := Heap.SameBut.update s.heap a (Obj.putSet es1 t2)
  split
  · have pm := relayAll_perm t2 es1 (SetTable.grown es1.size)
    have hf3 := relayAll_fits t2 es1 (SetTable.grown es1.size)
    have hr3 := relayAll_ris t2 es1 (SetTable.grown es1.size)
    have hl3 := relayAll_led t2 es1 (SetTable.grown es1.size)
    generalize relayAll t2 es1 (SetTable.grown es1.size) = Z at pm hf3 hr3 hl3 ⊢
    obtain ⟨es2, t3, gave⟩ := Z
    dsimp only at pm hf3 hr3 hl3 ⊢
    have hsz : es2.size = es1.size := by rw [← Array.length_toList, pm.length_eq, Array.length_toList]
    have hb2 : es2.size < scanBound := by rw [hsz]; exact hb1
    refine wpAny_bind (hg _ _ _ ?_)
    refine wpAny_bind (wpAny_storeSet_of ho1 rfl ?_ (fits_of_scanBound hb2))
    have ho2 := store_at (es' := es2) (t' := t3) ho1 rfl
    refine wpAny_pure (hR _ (sb1.trans (Heap.SameBut.update _ a _)) ?_)
    exact ⟨_, es2, _, t3, ho2, hex, rfl, fun e he => g1 e (pm.mem_iff.mp he), (pm.map keyS).nodup_iff.mpr nd1, fun k => (m1 k).trans (pm.map keyS).mem_iff.symm, hb2, hf3, hsz, hr3,
      hl.imp id fun z => by rw [hl3]; exact z⟩
  · exact wpAny_pure (hR _ sb1 ⟨_, es1, _, t2, ho1, hex, rfl, g1, nd1, m1, hb1, hf2, rfl, hr, hl⟩)
theorem setS_add {k : Str} {tk : Tok} {Q : Bool → Shared → Prop} (R : SetS w s.heap a S n) (room : n + 1 < scanBound)
    (hQ : ∀ h', Heap.SameBut a s.heap h' → SetS w h' a (fun j => S j || decide (j = k)) (if S k = true then n else n + 1) → Q (!S k) { s with heap := h' }) :
    wpAny (model P w) A (setAddHashed a (.str k tk) ((PySem.strKind P w).hash k)) Q E s := by
  obtain ⟨o, es, ep, t, ho, hex, hd, g, nd, hm, hb, hf, hn, hr, hl⟩ := R
  have hkey : (PySem.strKind P w).is k (.str k tk) = true := PySem.strKind_is P w k tk
  have hsc : (Value.str k tk).scannable = true := rfl
  have hel : ElemsOf (PySem.strKind P w) es.toList := goodS_elems g
  unfold setAddHashed setAddHashedIn
  refine wpAny_holding (wpAny_bind (wpAny_setState_of ho hd hf ?_))
  dsimp only
  rw [byScan_of hsc hb hel]
  simp only [↓reduceIte]
  unfold setAddByScan
  refine wpAny_bind ?_
  refine wpAny_bind (wpAny_rule ?_)
  refine wpAny_bind (wpAny_setScan_of hkey ho hd hf hel ?_)
  cases hfi : List.findIdx? (fun e => (PySem.strKind P w).is k e.2) es.toList with
  | some j =>
    dsimp only
    obtain ⟨hj, pj, _⟩ := List.findIdx?_eq_some_iff_getElem.mp hfi
    have hSk : S k = true := (hm k).2 ((goodS_mem (P := P) (w := w) g k).2 ⟨es.toList[j], List.getElem_mem hj, pj⟩)
    refine wpAny_pure (wpAny_pure ?_)
    have q := hQ s.heap (Heap.SameBut.refl a s.heap) ⟨o, es, ep, t, ho, hex, hd, g, nd, fun i => by
      rw [Bool.or_eq_true, decide_eq_true_eq, ← hm i]
      exact ⟨fun z => z.elim id (fun e => e ▸ hSk), .inl⟩, hb, hf, by rw [if_pos hSk]; exact hn, hr, hl⟩
    rw [hSk] at q
    exact q
  | none =>
    dsimp only
    have hnk : k ∉ es.toList.map keyS := fun z => by
      obtain ⟨e, he, q⟩ := (goodS_mem (P := P) (w := w) g k).1 z
      have c := List.findIdx?_eq_none_iff.mp hfi e he
      rw [q] at c
      cases c
    have hSk : S k = false := by
      cases q : S k with
      | false => rfl
      | true => exact absurd ((hm k).1 q) hnk
    have hgw : ∀ (b : Bool) {s₁ : Shared} {Q' : Unit → Shared → Prop}, Q' () s₁ → wpAny (model P w) A (match b with | true => rule "set.scan.the-table-gave-way" | false => pure ()) Q' E s₁ :=
      fun b s₁ Q' q => by cases b <;> first | exact wpAny_pure q | exact wpAny_rule q
    have pm := layNew_perm t es ((PySem.strKind P w).hash k) (.str k tk)
    have hf1 := layNew_fits t es ((PySem.strKind P w).hash k) (.str k tk)
    have hr1 := layNew_ris t es ((PySem.strKind P w).hash k) (.str k tk) hr
    have hl1 := layNew_led t es ((PySem.strKind P w).hash k) (.str k tk)
    generalize layNew t es ((PySem.strKind P w).hash k) (.str k tk) = Z at pm hf1 hr1 hl1 ⊢
    obtain ⟨es1, t1, wasDummy, gave⟩ := Z
    dsimp only at pm hf1 hr1 hl1 ⊢
    rw [Array.toList_push] at pm
    have pc : es1.toList.Perm (((PySem.strKind P w).hash k, Value.str k tk) :: es.toList) := pm.trans (List.perm_append_singleton _ _)
    have pk : (es1.toList.map keyS).Perm (k :: es.toList.map keyS) := pc.map keyS
    have g1 : ∀ e ∈ es1.toList, GoodS w e := fun e he => by
      rcases List.mem_cons.mp (pc.mem_iff.mp he) with z | z
      · rw [z]; exact ⟨k, tk, rfl, rfl⟩
      · exact g e z
    have nd1 : (es1.toList.map keyS).Nodup := pk.nodup_iff.mpr (List.nodup_cons.mpr ⟨hnk, nd⟩)
    have m1 : ∀ i, (S i || decide (i = k)) = true ↔ i ∈ es1.toList.map keyS := fun i => by
      rw [Bool.or_eq_true, decide_eq_true_eq, hm i, pk.mem_iff, List.mem_cons]
      exact Or.comm
    have hsz : es1.size = n + 1 := by rw [← Array.length_toList, pc.length_eq, List.length_cons, Array.length_toList, hn]
    have hb1 : es1.size < scanBound := by rw [hsz]; exact room
    have hled : w.params.followText "set-order" = true ∨ t1.led = true := hl.imp id fun z => by rw [hl1]; exact z
    have fin : ∀ h', Heap.SameBut a s.heap h' → SetS w h' a (fun j => S j || decide (j = k)) es1.size → Q true { s with heap := h' } := fun h' sb r => by
      have q := hQ h' sb
      rw [hSk] at q
      rw [hsz] at r
      exact q r
    refine wpAny_bind (hgw _ ?_)
    split
    · refine wpAny_bind ?_
      rw [hashByValue_scannable 8 hsc]
      refine wpAny_pure ?_
      refine setS_tail ?_ ho hex hd g1 nd1 m1 hb1 ?_ ?_ ?_ ?_
      · intro b s₁ Q' q; cases b <;> first | exact wpAny_pure q | exact wpAny_rule q
      · first | (split <;> first | exact hf1 | exact SetTable.fits_plain_off hf1) | exact hf1
      · first | (split <;> exact hr1) | exact hr1
      · first | (split <;> exact hled) | exact hled
      · intro h' sb r; dsimp only; exact wpAny_pure (fin h' sb r)
    · refine wpAny_bind (wpAny_pure ?_)
      simp only [↓reduceIte]
      refine setS_tail ?_ ho hex hd g1 nd1 m1 hb1 hf1 hr1 hled ?_
      · intro b s₁ Q' q; cases b <;> first | exact wpAny_pure q | exact wpAny_rule q
      · intro h' sb r; dsimp only; exact wpAny_pure (fin h' sb r)
theorem set_update_strs {I : Addr} {fp wr : List Addr} {G : Array GenState → Array GenState → Prop} {n : Nat} {Pv : Nat → Value → Prop} {St : Nat → Shared → Prop} {R : Result → Shared → Prop}
    (W : WalksS P w A.in1 I fp wr G n Pv St) (S : Addr) (hSf : S ∉ fp) (ns : List Str) (hn : n = ns.length) (hb : ns.length + 1 < scanBound) (hval : ∀ i v, Pv i v → ∃ k t, ns[i]? = some k ∧ v = .str k t) :
    ∀ (k i : Nat) (s : Shared), n - i = k → i ≤ n → St i s → (∃ c, c ≤ i ∧ SetS w s.heap S (fun j => decide (j ∈ ns.take i)) c) →
      (∀ s' c, Moved (S :: wr) G s s' → SetS w s'.heap S (fun j => decide (j ∈ ns)) c → R (.ok (.ret .none)) s') →
      codeAny (model P w) A (.builtin "set.update.loop" ⟨[.ref S, .ref I], []⟩) R s := by
  have hSw : S ∉ wr := fun h => hSf (W.sub _ h)
  have hsub : ∀ b ∈ wr, b ∈ S :: wr := fun b hb => List.mem_cons_of_mem _ hb
  intro k
  induction k with
  | zero =>
    intro i s hk' hi hst ⟨c, hc, hS⟩ hR
    have hin : i = n := by omega
    subst hin
    refine codeAny_builtin F.entry_set_update_loop ?_
    rw [Around.under_plainId F.plain_set_update_loop _]
    show wpAny _ A.in1 (pyNext (.ref I) >>= _) _ _ s
    refine wpAny_bind (W.done s _ _ hst fun s' hm => ?_)
    show wpAny _ A.in1 (ret Value.none) _ _ s'
    have e : ns.take i = ns := List.take_of_length_le (by omega)
    rw [e] at hS
    exact wpAny_pure (hR s' c (hm.mono hsub) (hS.at fun o e => hm.heap S o hSw e))
  | succ k ih =>
    intro i s hk' hi hst ⟨c, hc, hS⟩ hR
    have hlt : i < n := by omega
    refine codeAny_builtin F.entry_set_update_loop ?_
    rw [Around.under_plainId F.plain_set_update_loop _]
    show wpAny _ A.in1 (pyNext (.ref I) >>= _) _ _ s
    refine wpAny_bind (W.item i s _ _ hlt hst fun v s' hP hst' hm => ?_)
    obtain ⟨z, t, hz, rfl⟩ := hval i v hP
    have hS' : SetS w s'.heap S (fun j => decide (j ∈ ns.take i)) c := hS.at fun o e => hm.heap S o hSw e
    show wpAny _ A.in1 (holding [Value.str z t] (setAdd S (.str z t)) >>= _) _ _ s'
    refine wpAny_bind (wpAny_holding ?_)
    unfold setAdd
    refine wpAny_holding ?_
    refine wpAny_bind ((PySem.strKind P w).pyHash (k := z) (PySem.strKind_is _ _ _ _) ?_)
    refine setS_add (s := { s' with toks := s'.toks + 1 }) hS' (by omega) fun h' hsb hS2 => ?_
    have hS3 : SetS w h' S (fun j => decide (j ∈ ns.take (i + 1))) (if decide (z ∈ ns.take i) = true then c else c + 1) := hS2.congr fun j => by
      rw [List.take_add_one, hz]
      simp [List.mem_append]
    have hc3 : (if decide (z ∈ ns.take i) = true then c else c + 1) ≤ i + 1 := by
      split <;> omega
    refine wpAny_pure ⟨plainId_quiet F.plain_set_update_loop _, ih (i + 1) _ (by omega) hlt (W.frame _ s' _ _ hst' (Nat.le_succ _) fun b hb o e => ?_) ⟨_, hc3, hS3⟩ fun s'' c2 hm'' hS'' => ?_⟩
    · rw [hsb.2 b (fun h : b = S => hSf (by rw [← h]; exact hb))]; exact e
    · refine hR s'' c2 (Moved.trans W.gtrans ((hm.mono hsub).then_heap (Nat.le_succ _) fun b o hb e => ?_) hm'') hS''
      rw [hsb.2 b (fun h : b = S => hb (by rw [h]; exact List.mem_cons_self))]; exact e
/-- the size is that of the members, each once -/
theorem SetS.size {h : Heap} {ns : List Str} {c : Nat} (R : SetS w h a (fun j => decide (j ∈ ns)) c) : c = (uniq ns).length := by
  obtain ⟨o, es, ep, t, _, _, _, _, nd, hm, _, _, hn, _⟩ := R
  rw [← hn, ← Array.length_toList, ← List.length_map (f := keyS)]
  refine nodup_len nd (uniq_nodup ns) fun x => ?_
  rw [uniq_mem, ← hm x, decide_eq_true_eq]
theorem strs_of_vals : ∀ {xs : List Str} {us : List Value}, Vals (xs.map V.str) us → StrsAre us xs
  | [], _, .nil => .nil
  | x :: xs, _, .cons r t => by
    obtain ⟨k, rfl⟩ := r
    exact .cons x k (strs_of_vals t)
theorem strs_len {us : List Value} {xs : List Str} (h : StrsAre us xs) : us.length = xs.length := by
  induction h with
  | nil => rfl
  | cons _ _ _ ih => exact congrArg (· + 1) ih
theorem strs_val : ∀ {us : List Value} {xs : List Str}, StrsAre us xs → ∀ (i : Nat) (v : Value), us[i]? = some v → ∃ k t, xs[i]? = some k ∧ v = .str k t
  | _, _, .nil, i, v, h => by simp at h
  | _, _, .cons n t hr, 0, v, h => by
    simp at h
    exact ⟨n, t, rfl, h.symm⟩
  | _, _, .cons n t hr, i + 1, v, h => by
    simp only [List.getElem?_cons_succ] at h
    obtain ⟨k, t', e1, e2⟩ := strs_val hr i v h
    exact ⟨k, t', by simpa using e1, e2⟩
/-- a set as it is made -/
abbrev newSet (w : World) : Obj := { cls := .type "set", dict := none, data := .set #[] 0 (.fresh 0 0 (!w.params.followText "set-order")) }
/-- kept from the walk's look -/
structure Hid (p : Prop) : Prop where
  out : p
theorem call_set_tupS {l : Addr} {items : Array Value} (ns : List Str) {Q : Value → Shared → Prop} (hh : A.handled = none) (hl : s.heap.IsTuple l items) (hit : StrsAre items.toList ns) (hb : ns.length + 1 < scanBound)
    (h : ∀ (h' : Heap) (tk : Nat), SetS w h' s.heap.objs.size (fun j => decide (j ∈ ns)) (uniq ns).length → (∀ b o, s.heap.get? b = some o → h'.get? b = some o) → Q (.ref s.heap.objs.size) { s with heap := h', toks := tk }) :
    wpAny (model P w) A (call (.type "set") [.ref l]) Q E s := by
  have hisz : items.size = ns.length := by
    have q := strs_len hit
    rw [Array.length_toList] at q
    exact q
  obtain ⟨c, tl, hmro⟩ := F.called_set.mro
  have hmade := F.called_set.made
  have hsub := F.called_set.sub
  refine wpAny_call (codeAny_of_tree ?_)
  show wpAny _ _ (callAny (.type "set") _) _ _ _
  refine wpAny_pure ⟨Code.quiet_builtin _ (by decide +kernel), codeAny_builtin F.entry_type_call ?_⟩
  rw [Around.under_plain (weight_type_call_type "set" [.ref l] []) rfl]
  have h1 := F.called_set.notType
  have hct := F.typeCall_set_1 (.ref l)
  have hbH : Hid (ns.length + 1 < scanBound) := ⟨hb⟩
  clear hb
  repeat (any_goals (first | assumption | wp_step))
  refine codeAny_mono (code_set_led1 (.ref l) (E := E) (Q₁ := fun obj s₁ => obj = .ref s.heap.objs.size ∧ s₁ = { s with heap := s.heap.push (newSet w) }) ⟨rfl, rfl⟩) fun r s₁ hr => ?_
  cases r with
  | error e => exact hr
  | ok fl =>
    cases fl with
    | ret obj =>
      obtain ⟨rfl, rfl⟩ := hr
      have hS : (s.heap.push (newSet w)).get? s.heap.objs.size = some (newSet w) := Heap.get?_push_size _ rfl
      have hT : Shared.TypeIs { s with heap := s.heap.push (newSet w) } (.ref s.heap.objs.size) "set" := ⟨_, hS, rfl⟩
      have hli := F.called_set.init.lookup
      have hbi := F.called_set.init.bind (.ref s.heap.objs.size)
      repeat (any_goals (first | assumption | wp_step))
      refine codeAny_mono (codeAny_call_builtin (R := wants (fun r s₂ => r = .none ∧ ∃ h' tk, s₂ = { s with heap := h', toks := tk } ∧ SetS w h' s.heap.objs.size (fun j => decide (j ∈ ns)) (uniq ns).length ∧
          (∀ b o, s.heap.get? b = some o → h'.get? b = some o)) E) F.called_set.init.plain F.entry_set_init (check_set_init_1 hT ?_)) fun r₂ s₂ hr₂ => ?_
      · obtain ⟨ol, hol, hcl, nl, hdl⟩ := hl
        obtain ⟨ocls, odict, odata, oslots⟩ := ol
        simp only at hcl hdl
        subst hcl; subst hdl
        have hol' : (s.heap.push (newSet w)).get? l = some { cls := .type "tuple", dict := odict, data := .seq items nl, slots := oslots } := Heap.get?_push_of_some _ hol
        have hsls := F.sub_tuple_set
        have hslf := F.sub_tuple_frozenset
        have hne : (Value.type "tuple" == Value.type "dict") = false := by decide
        have hl1 : (s.heap.push (newSet w)).IsTuple l items := ⟨_, hol', rfl, nl, rfl⟩
        unfold newSet at *
        unfold Builtin.«set.__init__» noKeywords Builtin.Frozenset.updateFrom
        generalize hPI : pyIter = PI
        wp_walk
        subst hPI
        refine wpAny_pyIter_tuple hl1 ?_
        refine wpAny_bind (wpAny_runValue ?_)
        have hlS : l < s.heap.objs.size := Heap.lt_size hol
        have hh3 : A.in1.in1.in1.handled = none := by simp [hh]
        have hz1 : (s.heap.push (newSet w)).objs.size = s.heap.objs.size + 1 := Heap.size_push ..
        unfold newSet at hz1
        have hneI : l ≠ (s.heap.push { cls := .type "set", dict := none, data := .set #[] 0 (.fresh 0 0 (!w.params.followText "set-order")) }).objs.size := by
          rw [Heap.size_push]; exact Nat.ne_of_lt (Nat.lt_succ_of_lt hlS)
        have hSf : s.heap.objs.size ∉ [(s.heap.push { cls := .type "set", dict := none, data := .set #[] 0 (.fresh 0 0 (!w.params.followText "set-order")) }).objs.size, l] := by
          rw [Heap.size_push]; simp only [List.mem_cons, List.mem_singleton, List.not_mem_nil, or_false, not_or]
          exact ⟨Nat.ne_of_lt (Nat.lt_succ_self _), Nat.ne_of_gt hlS⟩
        have hval : ∀ (i : Nat) (v : Value), items[i]? = some v → ∃ k t, ns[i]? = some k ∧ v = .str k t := fun i v hv => strs_val hit i v (by rw [Array.getElem?_toList]; exact hv)
        refine set_update_strs ((Walks.tuple hh3 _ l hneI items).toS) s.heap.objs.size
          hSf ns hisz hbH.out hval (items.size - 0) 0 _ (by omega) (Nat.zero_le _)
          ⟨⟨_, Heap.get?_push_size _ rfl, rfl, rfl⟩, (hl1.push _)⟩ ?hS0 ?hR
        case hS0 =>
          have hget : ((s.heap.push { cls := .type "set", dict := none, data := .set #[] 0 (.fresh 0 0 (!w.params.followText "set-order")) }).push { cls := .type "tuple_iterator", data := .fields #[.ref l, .int 0 0] }).get? s.heap.objs.size
              = some { cls := .type "set", dict := none, data := .set #[] 0 (.fresh 0 0 (!w.params.followText "set-order")) } := Heap.get?_push_of_some _ hS
          exact ⟨0, Nat.le_refl 0, (setS_fresh (ho := hget)).congr fun k => by simp⟩
        case hR =>
          intro s' c' hm hS'
          obtain ⟨h', g2, d', tk', os'⟩ := s'
          have eg : g2 = s.gens := hm.gens
          have ed : d' = s.drawn := hm.drawn
          have eo : os' = s.os := hm.os
          subst eg; subst ed; subst eo
          show wpAny _ _ _ _ _ _
          refine wpAny_pure ?_
          show wpAny _ _ (ret Value.none) _ _ _
          refine wpAny_pure ⟨rfl, h', tk', rfl, ?_, fun b o e => ?_⟩
          · have z := hS'.size
            rw [← z]
            exact hS'
          have hb0 : b < s.heap.objs.size := Heap.lt_size e
          have hb1 : b ≠ s.heap.objs.size := Nat.ne_of_lt hb0
          have hb2 : b ≠ (s.heap.push { cls := .type "set", dict := none, data := .set #[] 0 (.fresh 0 0 (!w.params.followText "set-order")) }).objs.size := by
            rw [Heap.size_push]; exact Nat.ne_of_lt (Nat.lt_succ_of_lt hb0)
          exact hm.heap b o (by simp only [List.mem_cons, List.mem_singleton, List.not_mem_nil, or_false, not_or]; exact ⟨hb1, hb2⟩) (Heap.get?_push_of_some _ (Heap.get?_push_of_some _ e))
      · cases r₂ with
        | error e => exact hr₂
        | ok fl₂ =>
          cases fl₂ with
          | ret r =>
            obtain ⟨rfl, h', tk, rfl, hS', hk'⟩ := hr₂
            repeat (any_goals (first | assumption | wp_step))
            exact h _ _ hS' hk'
          | _ => exact hr₂.elim
    | _ => exact hr.elim
theorem call_set_listS {l : Addr} {items : Array Value} (ns : List Str) {Q : Value → Shared → Prop} (hh : A.handled = none) (hl : s.heap.IsList l items) (hit : StrsAre items.toList ns) (hb : ns.length + 1 < scanBound)
    (h : ∀ (h' : Heap) (tk : Nat), SetS w h' s.heap.objs.size (fun j => decide (j ∈ ns)) (uniq ns).length → (∀ b o, s.heap.get? b = some o → h'.get? b = some o) → Q (.ref s.heap.objs.size) { s with heap := h', toks := tk }) :
    wpAny (model P w) A (call (.type "set") [.ref l]) Q E s := by
  have hisz : items.size = ns.length := by
    have q := strs_len hit
    rw [Array.length_toList] at q
    exact q
  obtain ⟨c, tl, hmro⟩ := F.called_set.mro
  have hmade := F.called_set.made
  have hsub := F.called_set.sub
  refine wpAny_call (codeAny_of_tree ?_)
  show wpAny _ _ (callAny (.type "set") _) _ _ _
  refine wpAny_pure ⟨Code.quiet_builtin _ (by decide +kernel), codeAny_builtin F.entry_type_call ?_⟩
  rw [Around.under_plain (weight_type_call_type "set" [.ref l] []) rfl]
  have h1 := F.called_set.notType
  have hct := F.typeCall_set_1 (.ref l)
  have hbH : Hid (ns.length + 1 < scanBound) := ⟨hb⟩
  clear hb
  repeat (any_goals (first | assumption | wp_step))
  refine codeAny_mono (code_set_led1 (.ref l) (E := E) (Q₁ := fun obj s₁ => obj = .ref s.heap.objs.size ∧ s₁ = { s with heap := s.heap.push (newSet w) }) ⟨rfl, rfl⟩) fun r s₁ hr => ?_
  cases r with
  | error e => exact hr
  | ok fl =>
    cases fl with
    | ret obj =>
      obtain ⟨rfl, rfl⟩ := hr
      have hS : (s.heap.push (newSet w)).get? s.heap.objs.size = some (newSet w) := Heap.get?_push_size _ rfl
      have hT : Shared.TypeIs { s with heap := s.heap.push (newSet w) } (.ref s.heap.objs.size) "set" := ⟨_, hS, rfl⟩
      have hli := F.called_set.init.lookup
      have hbi := F.called_set.init.bind (.ref s.heap.objs.size)
      repeat (any_goals (first | assumption | wp_step))
      refine codeAny_mono (codeAny_call_builtin (R := wants (fun r s₂ => r = .none ∧ ∃ h' tk, s₂ = { s with heap := h', toks := tk } ∧ SetS w h' s.heap.objs.size (fun j => decide (j ∈ ns)) (uniq ns).length ∧
          (∀ b o, s.heap.get? b = some o → h'.get? b = some o)) E) F.called_set.init.plain F.entry_set_init (check_set_init_1 hT ?_)) fun r₂ s₂ hr₂ => ?_
      · obtain ⟨ol, hol, hcl, nl, hdl⟩ := hl
        obtain ⟨ocls, odict, odata, oslots⟩ := ol
        simp only at hcl hdl
        subst hcl; subst hdl
        have hol' : (s.heap.push (newSet w)).get? l = some { cls := .type "list", dict := odict, data := .seq items nl, slots := oslots } := Heap.get?_push_of_some _ hol
        have hsls := F.sub_list_set
        have hslf := F.sub_list_frozenset
        have hne : (Value.type "list" == Value.type "dict") = false := by decide
        have hl1 : (s.heap.push (newSet w)).IsList l items := ⟨_, hol', rfl, nl, rfl⟩
        unfold newSet at *
        unfold Builtin.«set.__init__» noKeywords Builtin.Frozenset.updateFrom
        generalize hPI : pyIter = PI
        wp_walk
        subst hPI
        refine wpAny_pyIter_list hl1 ?_
        refine wpAny_bind (wpAny_runValue ?_)
        have hlS : l < s.heap.objs.size := Heap.lt_size hol
        have hh3 : A.in1.in1.in1.handled = none := by simp [hh]
        have hz1 : (s.heap.push (newSet w)).objs.size = s.heap.objs.size + 1 := Heap.size_push ..
        unfold newSet at hz1
        have hneI : l ≠ (s.heap.push { cls := .type "set", dict := none, data := .set #[] 0 (.fresh 0 0 (!w.params.followText "set-order")) }).objs.size := by
          rw [Heap.size_push]; exact Nat.ne_of_lt (Nat.lt_succ_of_lt hlS)
        have hSf : s.heap.objs.size ∉ [(s.heap.push { cls := .type "set", dict := none, data := .set #[] 0 (.fresh 0 0 (!w.params.followText "set-order")) }).objs.size, l] := by
          rw [Heap.size_push]; simp only [List.mem_cons, List.mem_singleton, List.not_mem_nil, or_false, not_or]
          exact ⟨Nat.ne_of_lt (Nat.lt_succ_self _), Nat.ne_of_gt hlS⟩
        have hval : ∀ (i : Nat) (v : Value), items[i]? = some v → ∃ k t, ns[i]? = some k ∧ v = .str k t := fun i v hv => strs_val hit i v (by rw [Array.getElem?_toList]; exact hv)
        refine set_update_strs ((Walks.list hh3 _ l hneI items).toS) s.heap.objs.size
          hSf ns hisz hbH.out hval (items.size - 0) 0 _ (by omega) (Nat.zero_le _)
          ⟨⟨_, Heap.get?_push_size _ rfl, rfl, rfl⟩, (hl1.push _)⟩ ?hS0 ?hR
        case hS0 =>
          have hget : ((s.heap.push { cls := .type "set", dict := none, data := .set #[] 0 (.fresh 0 0 (!w.params.followText "set-order")) }).push { cls := .type "list_iterator", data := .fields #[.ref l, .int 0 0] }).get? s.heap.objs.size
              = some { cls := .type "set", dict := none, data := .set #[] 0 (.fresh 0 0 (!w.params.followText "set-order")) } := Heap.get?_push_of_some _ hS
          exact ⟨0, Nat.le_refl 0, (setS_fresh (ho := hget)).congr fun k => by simp⟩
        case hR =>
          intro s' c' hm hS'
          obtain ⟨h', g2, d', tk', os'⟩ := s'
          have eg : g2 = s.gens := hm.gens
          have ed : d' = s.drawn := hm.drawn
          have eo : os' = s.os := hm.os
          subst eg; subst ed; subst eo
          show wpAny _ _ _ _ _ _
          refine wpAny_pure ?_
          show wpAny _ _ (ret Value.none) _ _ _
          refine wpAny_pure ⟨rfl, h', tk', rfl, ?_, fun b o e => ?_⟩
          · have z := hS'.size
            rw [← z]
            exact hS'
          have hb0 : b < s.heap.objs.size := Heap.lt_size e
          have hb1 : b ≠ s.heap.objs.size := Nat.ne_of_lt hb0
          have hb2 : b ≠ (s.heap.push { cls := .type "set", dict := none, data := .set #[] 0 (.fresh 0 0 (!w.params.followText "set-order")) }).objs.size := by
            rw [Heap.size_push]; exact Nat.ne_of_lt (Nat.lt_succ_of_lt hb0)
          exact hm.heap b o (by simp only [List.mem_cons, List.mem_singleton, List.not_mem_nil, or_false, not_or]; exact ⟨hb1, hb2⟩) (Heap.get?_push_of_some _ (Heap.get?_push_of_some _ e))
      · cases r₂ with
        | error e => exact hr₂
        | ok fl₂ =>
          cases fl₂ with
          | ret r =>
            obtain ⟨rfl, h', tk, rfl, hS', hk'⟩ := hr₂
            repeat (any_goals (first | assumption | wp_step))
            exact h _ _ hS' hk'
          | _ => exact hr₂.elim
    | _ => exact hr.elim
/-- sorted of a set of texts -/
theorem sorted_setS {Q : Value → Shared → Prop} (R : SetS w s.heap a S n) (hh : A.handled = none) (h64 : n < 64)
    (hQ : ∀ s' p (out : Array Value) (c : Nat) (ns : List Str), (∀ b o, s.heap.get? b = some o → s'.heap.get? b = some o) → s'.gens = s.gens → s'.os = s.os → s.heap.objs.size ≤ p →
      s'.heap.get? p = some (seqObj "list" out c) → StrsAre out.toList ns → sortedS ns = true → ns.Nodup → (∀ k, k ∈ ns ↔ S k = true) → ns.length = n → Q (.ref p) s') :
    wpAny (model P w) A (call (.builtin "sorted") [.ref a]) Q E s := by
  obtain ⟨o, es, ep, t, ho, hex, hd, g, nd, hm, hb, hf, hn, hr, hl⟩ := R
  refine Calls.call_function_entry kind_sorted plain_sorted entry_sorted (args_sorted1 _) ?_
  unfold Builtin.«sorted»
  refine wpAny_bind (m := checkCount "sorted" 1 1 _) (wpAny_pure ?_)
  refine wpAny_bind (collect_set (A := A.in1) hh ⟨o, ho, hex.1, hd⟩ hf hb hr hl fun s1 vs k1 hz g1 o1 pm => ?_)
  have hvl : vs.length = n := by rw [pm.length_eq, List.length_map, Array.length_toList]; exact hn
  have hI : StrsAre vs (vs.map PyProof.Rows.strOf) := strsAre_map vs fun v hv => by
    obtain ⟨e, he, q⟩ := List.mem_map.mp (pm.mem_iff.mp hv)
    obtain ⟨k, tk, h1, _⟩ := g e he
    exact ⟨k, tk, by rw [← q]; exact h1⟩
  have pk : (vs.map PyProof.Rows.strOf).Perm (es.toList.map keyS) := by
    have q := pm.map PyProof.Rows.strOf
    rw [List.map_map] at q
    exact q
  refine wpAny_bind (wpAny_newList ?_ (by rw [hvl, sizeLine_eq]; omega))
  have hoL : (s1.heap.push (seqObj "list" vs.toArray 0)).get? s1.heap.objs.size = some (seqObj "list" vs.toArray 0) := Heap.get?_push_size _ rfl
  refine wpAny_bind (wpAny_holding (wpAny_call_entry slot_list_sort ⟨_, hoL, rfl⟩ entry_list_sort (list_sort_treeK strKind_oneLt hoL hI.keysOf (fun v₁ v₂ rest e => keyKind_strs (by rw [← e]; exact hI)) (by rw [hvl]; exact h64) fun st' a1 a2 => ⟨_, rfl, ?_⟩) (args_list_sort _)))
  obtain ⟨ns', b1, b2, b3⟩ := sorted_out_str hI a1 a2
  obtain ⟨c, hc⟩ := sortedHeap_at (vs := vs) (out := (arrOf st').map (·.2)) hoL
  have pn : ns'.Perm (es.toList.map keyS) := b2.trans pk
  refine wpAny_pure ⟨_, rfl, hQ _ s1.heap.objs.size _ c ns' (fun b u e => ?_) g1 o1 hz hc b1 b3 (pn.nodup_iff.mpr nd) (fun k => by rw [pn.mem_iff, ← hm k]) ?_⟩
  · have q := k1 b u e
    have hlt := Heap.lt_size q
    show (sortedHeap (s1.heap.push (seqObj "list" vs.toArray 0)) s1.heap.objs.size vs _).get? b = some u
    rw [sortedHeap_old (Nat.ne_of_lt hlt) (by rw [size_push']; exact Nat.lt_succ_of_lt hlt)]
    exact Heap.get?_push_of_some _ q
  · rw [pn.length_eq, List.length_map, Array.length_toList]; exact hn
end
/-! ### as calls -/
def SetSO (w : World) (a : Addr) (S : Str → Bool) (n : Nat) : HO := .ext fun h => SetS w h a S n
section
variable {X : Cx}
theorem setSO_new {w : World} {P : Program} {H : Hp} {h : Heap} {a : Addr} {S : Str → Bool} {n : Nat} (R : SetS w h a S n) : ObjOk P w H h a (SetSO w a S n) := by
  have ⟨o, _, _, _, ho, _⟩ := R
  exact ⟨R, ⟨o, ho⟩, fun h1 h2 p k => SetS.at p k⟩
theorem setSO_get {pins : List (Addr × Obj)} {σ : L2.St} {H : Hp} {s : Shared} {a : Addr} {S : Str → Bool} {n : Nat} (I : Inv X pins σ H s) (ha : H a = some (SetSO X.w a S n)) : SetS X.w s.heap a S n := (I.hok a _ ha).1
/-- set(xs), xs a list or tuple of texts -/
def rSetOfS (K : PySem.W.Frag) (w : World) : List V → Hp → VK → Prop := fun vs H Q => ∃ (l : Addr) (xs : List Str), vs = [.ref l] ∧ (SqL K H l (xs.map V.str) ∨ SqT K H l (xs.map V.str)) ∧ xs.length ≤ 2000 ∧ ∀ a, H a = none → Q (.ref a) (upd H a (SetSO w a (fun j => decide (j ∈ xs)) (uniq xs).length))
theorem cr_setOfS (hc : X.calm = true) : CallR X (.type "set") (rSetOfS X.K X.w) := by
  intro pins s σ H vs us Q I r h
  obtain ⟨l, xs, rfl, hl, hk, q⟩ := h
  rw [Vals.ref1 r]
  have hn : H s.heap.objs.size = none := I.hok.fresh (Nat.le_refl _)
  have hb : xs.length + 1 < scanBound := by unfold scanBound; omega
  rcases hl with hl | hl
  · obtain ⟨its, rv, pl, hz⟩ := I.list hl
    exact call_set_listS (P := X.prog) (w := X.w) xs (I.ok.hd hc) pl.isList (by simpa using strs_of_vals rv) hb fun h' tk R k => ⟨.ref s.heap.objs.size, upd H s.heap.objs.size (SetSO X.w s.heap.objs.size _ _), I.laid (t' := tk) k (Nat.le_refl _) (setSO_new R), rfl, q _ hn⟩
  · obtain ⟨its, rv, pl, hz⟩ := I.tuple hl
    exact call_set_tupS (P := X.prog) (w := X.w) xs (I.ok.hd hc) pl (by simpa using strs_of_vals rv) hb fun h' tk R k => ⟨.ref s.heap.objs.size, upd H s.heap.objs.size (SetSO X.w s.heap.objs.size _ _), I.laid (t' := tk) k (Nat.le_refl _) (setSO_new R), rfl, q _ hn⟩
/-- len of it -/
def rLenSS (w : World) : List V → Hp → VK → Prop := fun vs H Q => ∃ (a : Addr) (S : Str → Bool) (n : Nat), vs = [.ref a] ∧ H a = some (SetSO w a S n) ∧ Q (.int n) H
theorem cr_lenSS : CallR X (.builtin "len") (rLenSS X.w) := by
  intro pins s σ H vs us Q I r h
  obtain ⟨a, S, n, rfl, ha, q⟩ := h
  rw [Vals.ref1 r]
  obtain ⟨o, es, ep, t, ho, hex, hd, _, _, _, hb, hf, hn, _⟩ := setSO_get I ha
  exact call_len_set ho hex hd hf (by have z := hb; unfold scanBound at z; omega) ⟨.int n, H, I.tok _, ⟨_, by rw [hn]⟩, q⟩
/-- sorted of it -/
def rSortSS (w : World) : List V → Hp → VK → Prop := fun vs H Q => ∃ (a : Addr) (S : Str → Bool) (n : Nat), vs = [.ref a] ∧ H a = some (SetSO w a S n) ∧ n < 64 ∧
  ∀ (ys : List Str) (p : Addr), ys.Nodup → (∀ k, k ∈ ys ↔ S k = true) → sortedS ys = true → ys.length = n → H p = none → Q (.ref p) (upd H p (.lst (ys.map V.str)))
theorem cr_sortSS (hc : X.calm = true) : CallR X (.builtin "sorted") (rSortSS X.w) := by
  intro pins s σ H vs us Q I r h
  obtain ⟨a, S, n, rfl, ha, h64, q⟩ := h
  have R := setSO_get I ha
  rw [Vals.ref1 r]
  refine sorted_setS R (I.ok.hd hc) h64 fun s' p out c ns k g o hp hg hi hs nd hm hl => ?_
  have hlen : (ns.map V.str).length ≤ sizeLine := by rw [List.length_map, hl, sizeLine_eq]; omega
  have hn : H p = none := I.hok.fresh hp
  have J : Inv X pins σ (upd H p (.lst (ns.map V.str))) { s with heap := s'.heap, gens := s'.gens, drawn := s'.drawn, toks := s'.toks } :=
    I.call (ch := []) (Un.laid k hp hn) (I.hok.laid k hp ⟨hlen, out.toList, c, vals_of_strs hi, hg⟩) (by rw [g]; exact I.bare) (fun _ z => nomatch z)
  have e : s' = { s with heap := s'.heap, gens := s'.gens, drawn := s'.drawn, toks := s'.toks } := by
    cases s'
    cases s
    cases o
    rfl
  rw [e]
  exact ⟨.ref p, _, J, rfl, q ns p nd hm hs hl hn⟩
end
end Aim

namespace Aim
open PySem PySem.Spec PyProof.Rows L2
open LamX (TabB Tabs CodeO)
/-! ### data: what values show, by themselves; the heap is told of no more -/
inductive Dat where
  | non | bl (b : Bool) | int (i : Int) | str (x : Str) | byt (b : Array UInt8)
  | ty (n : String) | ref (a : Addr) | pot
  | tup (xs : List Dat) | lst (xs : List Dat)
  | dct (ks : List Key) (xs : List Dat)
  | obj (C : Addr) (ks : List Str) (xs : List Dat)
  | exc (C : Addr) (d : Dat)
  | scr (ns : List Int)
/-- what holds of every text -/
def StrB (x : Str) : Prop := x.length ≤ sizeLine ∧ x.cps.all (fun c => decide (c < 0x110000)) = true
/-- the shape of a thing that one slot alone holds: a list; the dict of an instance with these fields -/
inductive Shp where
  | lst | ins (ks : List Str) | inst (C dx : Addr)
def shφ : Shp → List V → Addr → Heap → Prop
  | .lst, xs, a, h => xs.length ≤ sizeLine ∧ ∃ (its : List Value) (k : Nat), Vals xs its ∧ h.get? a = some { cls := .type "list", data := .seq its.toArray k }
  | .ins ks, xs, a, h => (ks.length = xs.length ∧ xs.length ≤ 1000) ∧ (∃ (o : Obj) (es : Array DictEntry) (ep : Nat), h.get? a = some o ∧ o.data = .dict es ep) ∧ ∃ mA, h.Ns1 a mA ∧ (∀ f, RelO ((ks.zip xs).lookup f) (mA f)) ∧ PySem.Within mA ((ks.zip xs).map (·.1))
  | .inst C dx, _, a, h => h.get? a = some (PySem.W.instObj C dx)
def OwnS (sh : Shp) (xs : List V) (a : Addr) : HO := .ext (shφ sh xs a)
/-- a list that one slot alone holds -/
abbrev OwnO (xs : List V) (a : Addr) : HO := OwnS .lst xs a
theorem OwnO.ok {P : Program} {w : World} {H : Hp} {h : Heap} {a : Addr} {xs : List V} (l : xs.length ≤ sizeLine) {its : List Value} {k : Nat} (r : Vals xs its) (e : h.get? a = some { cls := .type "list", data := .seq its.toArray k }) : ObjOk P w H h a (OwnO xs a) :=
  ⟨⟨l, its, k, r, e⟩, ⟨_, e⟩, fun _ _ ⟨l, its, k, r, q⟩ f => ⟨l, its, k, r, f _ q⟩⟩
theorem OwnS.at {P : Program} {w : World} {H : Hp} {h : Heap} {a : Addr} {sh : Shp} {xs : List V} (hok : HOk P w H h) (e : H a = some (OwnS sh xs a)) : shφ sh xs a h := by
  obtain ⟨x, _, _⟩ := (show ObjOk P w H h a (OwnS sh xs a) from hok a _ e)
  exact x
theorem OwnO.at {P : Program} {w : World} {H : Hp} {h : Heap} {a : Addr} {xs : List V} (hok : HOk P w H h) (e : H a = some (OwnO xs a)) : xs.length ≤ sizeLine ∧ ∃ (its : List Value) (k : Nat), Vals xs its ∧ h.get? a = some { cls := .type "list", data := .seq its.toArray k } := OwnS.at hok e
theorem OwnS.insOk {P : Program} {w : World} {H : Hp} {h : Heap} {a : Addr} {ks : List Str} {xs : List V} (y : shφ (.ins ks) xs a h) : ObjOk P w H h a (OwnS (.ins ks) xs a) := by
  obtain ⟨o, es, ep, e, _⟩ := id y.2.1
  exact ⟨y, ⟨o, e⟩, fun h1 h2 ⟨l, ⟨o, es, ep, e, d⟩, mA, ns, r, wi⟩ f => ⟨l, ⟨o, es, ep, f _ e, d⟩, mA, ns.at f, r, wi⟩⟩
/-- a heap with this object at a -/
theorem heap_with (a : Addr) (its : Array Value) : ∃ h : Heap, h.get? a = some { cls := .type "list", data := .seq its 0 } := ⟨⟨Array.replicate (a + 1) { cls := .type "list", data := .seq its 0 }, {}⟩, by simp [Heap.get?]⟩
theorem own_pot {sh : Shp} {xs : List V} {a : Addr} {k : Nat} : OwnS sh xs a ≠ PotO k a := fun z => by
  unfold OwnS PotO at z
  injection z with z
  have pot : ∀ d : Int, 0 ≤ d → ∀ h : Heap, h.get? a = some { cls := .type "list", data := .seq #[.int d 0, .int 0 0, .int 0 0] 0 } → shφ sh xs a h := fun d hd h hh => by
    rw [congrFun z h]
    exact ⟨d, 0, 0, 0, 0, 0, 0, hh, ⟨hd, by decide, by decide, by omega, by omega⟩⟩
  cases sh with
  | ins ks =>
    obtain ⟨h, hh⟩ := heap_with a #[.int 0 0, .int 0 0, .int 0 0]
    obtain ⟨_, ⟨o, es, ep, e, d⟩, _⟩ := pot 0 (by omega) h hh
    rw [hh] at e
    cases e
    cases d
  | inst C dx =>
    obtain ⟨h, hh⟩ := heap_with a #[.int 0 0, .int 0 0, .int 0 0]
    have y : h.get? a = some (PySem.W.instObj C dx) := pot 0 (by omega) h hh
    rw [hh] at y
    cases y
  | lst =>
    have key : ∀ d : Int, 0 ≤ d → xs[0]? = some (.int d) := fun d hd => by
      obtain ⟨h, hh⟩ := heap_with a #[.int d 0, .int 0 0, .int 0 0]
      obtain ⟨-, its, n, r, e⟩ := pot d hd h hh
      rw [hh] at e
      injection e with e
      injection e with _ _ e
      injection e with e _
      have e2 : its = [.int d 0, .int 0 0, .int 0 0] := by simpa using (congrArg Array.toList e).symm
      subst e2
      cases r with
      | cons r0 _ =>
        have e3 := r0.abs
        show some _ = some _
        exact e3.symm
    have h1 := key 0 (by omega)
    have h2 := key 1 (by omega)
    rw [h1] at h2
    cases h2
theorem own_vals (xs : List V) : ∃ its : List Value, Vals xs its := by
  induction xs with
  | nil => exact ⟨[], .nil⟩
  | cons x r ih =>
    obtain ⟨its, q⟩ := ih
    cases x with
    | non => exact ⟨.none :: its, .cons rfl q⟩
    | bl b => exact ⟨.bool b :: its, .cons rfl q⟩
    | int i => exact ⟨.int i 0 :: its, .cons ⟨_, rfl⟩ q⟩
    | str x => exact ⟨.str x 0 :: its, .cons ⟨_, rfl⟩ q⟩
    | byt b => exact ⟨.bytes b 0 :: its, .cons ⟨_, rfl⟩ q⟩
    | flt b => exact ⟨.float b 0 :: its, .cons ⟨_, rfl⟩ q⟩
    | ref a => exact ⟨.ref a :: its, .cons rfl q⟩
    | ty n => exact ⟨.type n :: its, .cons rfl q⟩
theorem own_kind {ks : List Str} {xs ys : List V} {a : Addr} (l : ys.length ≤ sizeLine) : OwnS (.ins ks) xs a ≠ OwnO ys a := fun z => by
  unfold OwnO OwnS at z
  injection z with z
  obtain ⟨its, r⟩ := own_vals ys
  obtain ⟨g, hg⟩ := heap_with a its.toArray
  have q : shφ (.ins ks) xs a g := by
    rw [z]
    exact ⟨l, its, 0, r, hg⟩
  obtain ⟨_, ⟨o, es, ep, e, d⟩, _⟩ := q
  rw [hg] at e
  cases e
  cases d
/-- a thing whose object bears fields is no list and no dict -/
theorem own_flds {sh : Shp} {xs : List V} {a : Addr} {φ : Heap → Prop} (sat : ∃ h, φ h) (h : ∀ h : Heap, φ h → ∃ (o : Obj) (vs : Array Value), h.get? a = some o ∧ o.data = .fields vs) : HO.ext φ ≠ OwnS sh xs a := fun z => by
  unfold OwnS at z
  injection z with z
  obtain ⟨g, hg⟩ := sat
  obtain ⟨o, vs, e1, e2⟩ := h g hg
  rw [z] at hg
  cases sh with
  | lst =>
    obtain ⟨_, its, k, _, e⟩ := hg
    rw [e1] at e
    cases e
    cases e2
  | ins ks =>
    obtain ⟨_, ⟨o', es, ep, e, d⟩, _⟩ := hg
    rw [e1] at e
    cases e
    rw [e2] at d
    cases d
  | inst C dx =>
    have hg : g.get? a = some (PySem.W.instObj C dx) := hg
    rw [e1] at hg
    cases hg
    cases e2
theorem own_xcv {sh : Shp} {xs : List V} {a : Addr} {cls : Value} {d : Option Addr} : XcV cls d a ≠ OwnS sh xs a := own_flds ⟨⟨Array.replicate (a + 1) { cls := cls, dict := d, data := .fields #[] }, {}⟩, { cls := cls, dict := d, data := .fields #[] }, #[], by simp [Heap.get?], ⟨rfl, rfl⟩, rfl⟩ fun h ⟨oe, vs, e, _, q⟩ => ⟨oe, vs, e, q⟩
theorem own_code {sh : Shp} {xs : List V} {a : Addr} {q : Str} : CodeO a q ≠ OwnS sh xs a := own_flds ⟨⟨Array.replicate (a + 1) { cls := .none, data := .fields #[.none, .str q 0] }, {}⟩, { cls := .none, data := .fields #[.none, .str q 0] }, _, 0, by simp [Heap.get?], rfl, rfl⟩ fun h ⟨oc, vs, t, e, q, _⟩ => ⟨oc, vs, e, q⟩
/-- what stands for ever -/
def Perm (b : Addr) (o : HO) : Prop := (∀ k, o ≠ PotO k b) ∧ (∀ {sh : Shp} (xs : List V), o ≠ OwnS sh xs b) ∧ ∀ ps, o ≠ .tbl ps
theorem perm_ext {b : Addr} {o : HO} (h : ∀ φ, o ≠ .ext φ) (h2 : ∀ ps, o ≠ .tbl ps) : Perm b o := ⟨fun _ => h _, fun {_} _ => h _, h2⟩
/-- an instance in the making, but for its dict -/
abbrev HidX (C dx x : Addr) : HO := OwnS (.inst C dx) [] x
theorem kind_ins {ks : List Str} {xs : List V} {C dx a : Addr} : OwnS (.ins ks) xs a ≠ HidX C dx a := fun z => by
  unfold HidX OwnS at z
  injection z with z
  obtain ⟨g, hg⟩ : ∃ h : Heap, h.get? a = some (PySem.W.instObj C dx) := ⟨⟨Array.replicate (a + 1) (PySem.W.instObj C dx), {}⟩, by simp [Heap.get?]⟩
  have y : shφ (.ins ks) xs a g := (congrFun z g).mpr hg
  obtain ⟨_, ⟨o, es, ep, e, d⟩, _⟩ := y
  rw [hg] at e
  cases e
  cases d
theorem kind_inst {ys : List V} {C dx a : Addr} : HidX C dx a ≠ OwnO ys a := fun z => by
  unfold HidX OwnO OwnS at z
  injection z with z
  obtain ⟨g, hg⟩ : ∃ h : Heap, h.get? a = some (PySem.W.instObj C dx) := ⟨⟨Array.replicate (a + 1) (PySem.W.instObj C dx), {}⟩, by simp [Heap.get?]⟩
  have y : shφ .lst ys a g := (congrFun z g).mp hg
  obtain ⟨_, its, k, _, e⟩ := y
  rw [hg] at e
  cases e
theorem perm_xcv {cls : Value} {d : Option Addr} {b : Addr} : Perm b (XcV cls d b) := ⟨fun k z => xcv_np z, fun {sh} xs => own_xcv, fun ps z => by unfold XcV at z; cases z⟩
/-! ### a state: the draws so far, and the things that may change, by their addresses -/
abbrev Sto := Addr → Option (Shp × List Dat)
class Stt (S : Type) where
  cnt : S → Nat
  sto : S → Sto
  at_ : S → Nat → S
  cnt_at : ∀ s k, cnt (at_ s k) = k
  sto_at : ∀ s k, sto (at_ s k) = sto s
open Stt (cnt sto)
instance sttNat : Stt Nat := ⟨fun n => n, fun _ _ => none, fun _ k => k, fun _ _ => rfl, fun _ _ => rfl⟩
variable {S : Type} [Stt S]
/-! ### what a value shows -/
mutual
inductive Sees (K : PySem.W.Frag) (n : S) (H : Hp) : V → Dat → Prop
  | non : Sees K n H .non .non
  | bl (b : Bool) : Sees K n H (.bl b) (.bl b)
  | int (i : Int) : Sees K n H (.int i) (.int i)
  | str (x : Str) : StrB x → Sees K n H (.str x) (.str x)
  | byt (x : Array UInt8) : x.size ≤ sizeLine → Sees K n H (.byt x) (.byt x)
  | ty (x : String) : Sees K n H (.ty x) (.ty x)
  | ref (a : Addr) : Sees K n H (.ref a) (.ref a)
  | pot {a : Addr} {k : Nat} : H a = some (PotO k a) → k ≤ Stt.cnt n → Sees K n H (.ref a) .pot
  | tup {a : Addr} {xs : List V} {ds : List Dat} : SqN K H a xs → xs.length ≤ sizeLine → SeesL K n H xs ds → Sees K n H (.ref a) (.tup ds)
  | lst {a : Addr} {xs : List V} {ds : List Dat} : H a = some (.lst xs) → xs.length ≤ sizeLine → SeesL K n H xs ds → Sees K n H (.ref a) (.lst ds)
  | scr {a : Addr} {ns : List Int} : SqL K H a (ns.map V.int) → Sees K n H (.ref a) (.scr ns)
  | dct {a : Addr} {ks : List Key} {xs : List V} {ds : List Dat} : Rd H a (.dK (ks.zip xs)) → ks.length = xs.length → SeesL K n H xs ds → Sees K n H (.ref a) (.dct ks ds)
  | obj {a C dx : Addr} {ks : List Str} {xs : List V} {ds : List Dat} : H a = some (.ins C dx (ks.zip xs)) → ks.length = xs.length → SeesL K n H xs ds → Sees K n H (.ref a) (.obj C ks ds)
  | exc {a C dd : Addr} {v : V} {d : Dat} : H a = some (XcV (.ref C) (some dd) a) → H dd = some (.xd [("value", v)]) → Sees K n H v d → Sees K n H (.ref a) (.exc C d)
inductive SeesL (K : PySem.W.Frag) (n : S) (H : Hp) : List V → List Dat → Prop
  | nil : SeesL K n H [] []
  | cons {v : V} {vs : List V} {d : Dat} {ds : List Dat} : Sees K n H v d → SeesL K n H vs ds → SeesL K n H (v :: vs) (d :: ds)
end
/-! ### frames -/
/-- what stands, and pots -/
structure Frb (n : S) (H : Hp) (m : S) (H' : Hp) : Prop where
  le : cnt n ≤ cnt m
  keep : ∀ b o, H b = some o → Perm b o → H' b = some o
  pot : ∀ b k, k ≤ cnt n → H b = some (PotO k b) → ∃ j, j ≤ cnt m ∧ H' b = some (PotO j b)
section
variable {K : PySem.W.Frag} {n m : S} {H H' : Hp}
theorem Frb.rd {a : Addr} {u : HO} (e : Frb n H m H') (h : Rd H a u) (h1 : ∀ φ, u ≠ .ext φ) (h2 : ∀ ps, u ≠ .tbl ps) : Rd H' a u := by
  rcases h with h | ⟨o, h⟩
  · exact .inl (e.keep _ _ h (perm_ext h1 h2))
  · exact .inr ⟨o, e.keep _ _ h (perm_ext (fun _ z => nomatch z) fun _ z => nomatch z)⟩
theorem Frb.sqL {a : Addr} {xs : List V} (e : Frb n H m H') (h : SqL K H a xs) : SqL K H' a xs := h.imp (fun h => e.rd h (fun _ z => nomatch z) fun _ z => nomatch z) id
theorem Frb.sqT {a : Addr} {xs : List V} (e : Frb n H m H') (h : SqT K H a xs) : SqT K H' a xs := h.imp (fun h => e.rd h (fun _ z => nomatch z) fun _ z => nomatch z) id
theorem Frb.sqN {a : Addr} {xs : List V} (e : Frb n H m H') (h : SqN K H a xs) : SqN K H' a xs := h.imp (fun ⟨o, h, z⟩ => ⟨o, e.keep _ _ h (perm_ext (fun _ z => nomatch z) fun _ z => nomatch z), z⟩) id
theorem Frb.ins {a C dx : Addr} {fs : List (Str × V)} (e : Frb n H m H') (h : H a = some (.ins C dx fs)) : H' a = some (.ins C dx fs) := e.keep _ _ h (perm_ext (fun _ z => nomatch z) fun _ z => nomatch z)
theorem Frb.xd {a : Addr} {fs : List (Str × V)} (e : Frb n H m H') (h : H a = some (.xd fs)) : H' a = some (.xd fs) := e.keep _ _ h (perm_ext (fun _ z => nomatch z) fun _ z => nomatch z)
mutual
theorem Sees.monoB (e : Frb n H m H') : ∀ {v : V} {d : Dat}, Sees K n H v d → Sees K m H' v d
  | _, _, .non => .non
  | _, _, .bl b => .bl b
  | _, _, .int i => .int i
  | _, _, .str x l => .str x l
  | _, _, .byt x l => .byt x l
  | _, _, .ty x => .ty x
  | _, _, .ref a => .ref a
  | _, _, .pot h l => by
    obtain ⟨j, h1, h2⟩ := e.pot _ _ l h
    exact .pot h2 h1
  | _, _, .tup hs l ha => .tup (e.sqN hs) l (SeesL.monoB e ha)
  | _, _, .lst hs l ha => .lst (e.keep _ _ hs (perm_ext (fun _ z => nomatch z) fun _ z => nomatch z)) l (SeesL.monoB e ha)
  | _, _, .scr hs => .scr (e.sqL hs)
  | _, _, .dct hs hk ha => .dct (e.rd hs (fun _ z => nomatch z) fun _ z => nomatch z) hk (SeesL.monoB e ha)
  | _, _, .obj hs hk ha => .obj (e.ins hs) hk (SeesL.monoB e ha)
  | _, _, .exc h1 h2 h3 => .exc (e.keep _ _ h1 perm_xcv) (e.xd h2) (Sees.monoB e h3)
theorem SeesL.monoB (e : Frb n H m H') : ∀ {vs : List V} {ds : List Dat}, SeesL K n H vs ds → SeesL K m H' vs ds
  | _, _, .nil => .nil
  | _, _, .cons h r => .cons (Sees.monoB e h) (SeesL.monoB e r)
end
theorem Frb.refl : Frb n H n H := ⟨Nat.le_refl _, fun _ _ e _ => e, fun _ j h e => ⟨j, h, e⟩⟩
theorem Frb.growB (g : Grow H H') : Frb n H n H' := ⟨Nat.le_refl _, fun b o e _ => g b o e, fun b k q e => ⟨k, q, g _ _ e⟩⟩
theorem Frb.pots {p : Addr} {j i : Nat} (h : H p = some (PotO j p)) (l : i ≤ cnt m) (h2 : cnt n ≤ cnt m) : Frb n H m (upd H p (PotO i p)) := by
  refine ⟨h2, fun b o e q => ?_, fun b k q e => ?_⟩
  · rw [upd_ne fun z => ?_]
    · exact e
    · subst z
      rw [h] at e
      exact q.1 j (Option.some.inj e).symm
  · by_cases hb : b = p
    · subst hb
      exact ⟨i, l, upd_same⟩
    · rw [upd_ne hb]
      exact ⟨k, Nat.le_trans q h2, e⟩
theorem Frb.own {p : Addr} {sh : Shp} {o : HO} {xs : List V} (h : H p = some (OwnS sh xs p)) : Frb n H n (upd H p o) := by
  refine ⟨Nat.le_refl _, fun b u e q => ?_, fun b k q e => ?_⟩
  · rw [upd_ne fun z => ?_]
    · exact e
    · subst z
      rw [h] at e
      exact q.2.1 xs (Option.some.inj e).symm
  · rw [upd_ne fun z => ?_]
    · exact ⟨k, q, e⟩
    · subst z
      rw [h] at e
      exact own_pot (Option.some.inj e)
end
/-! ### the things that may change, in the heap -/
def shW : Shp → List V → List Dat → Prop
  | .lst, xs, _ => xs.length ≤ sizeLine
  | .ins ks, xs, _ => ks.length = xs.length
  | .inst _ _, xs, ds => xs = [] ∧ ds = []
structure StoOk (K : PySem.W.Frag) (n : S) (H : Hp) : Prop where
  ok : ∀ a sh ds, sto n a = some (sh, ds) → ∃ xs, H a = some (OwnS sh xs a) ∧ shW sh xs ds ∧ SeesL K n H xs ds
section
variable {TT : List (Addr × Str)} {K : PySem.W.Frag} {n m k : S} {H H1 H2 H' : Hp}
theorem StoOk.none {n : S} (h : ∀ a, sto n a = none) : StoOk K n H := ⟨fun a sh ds e => by rw [h a] at e; cases e⟩
theorem StoOk.nat {n : Nat} : StoOk K n H := .none fun _ => rfl
/-- what is new is not in the store -/
theorem StoOk.free {a : Addr} (h : StoOk K n H) (e : H a = Option.none) : sto n a = Option.none := by
  cases z : sto n a with
  | none => rfl
  | some c =>
    obtain ⟨xs, q, _⟩ := h.ok a c.1 c.2 z
    rw [e] at q
    cases q
theorem StoOk.mono (h : StoOk K n H) (e : Frb n H m H') (hs : sto m = sto n) (k : ∀ a xs sh, sto n a ≠ Option.none → H a = some (OwnS sh xs a) → H' a = some (OwnS sh xs a)) : StoOk K m H' := ⟨fun a sh ds q => by
  rw [hs] at q
  obtain ⟨xs, h1, h2, h3⟩ := h.ok a sh ds q
  exact ⟨xs, k a xs sh (by rw [q]; simp) h1, h2, SeesL.monoB e h3⟩⟩
/-- from a state in H to another one in H' -/
structure Fra (K : PySem.W.Frag) (TT : List (Addr × Str)) (n : S) (H : Hp) (m : S) (H' : Hp) : Prop extends Frb n H m H' where
  tab : Tabs TT H → Tabs TT H'
  st : StoOk K n H → StoOk K m H'
theorem Fra.refl : Fra K TT n H n H := ⟨.refl, id, id⟩
theorem Frb.trans (a : Frb n H m H1) (b : Frb m H1 k H2) : Frb n H k H2 := ⟨Nat.le_trans a.le b.le, fun c o e p => b.keep c o (a.keep c o e p) p, fun c j h e => by
  obtain ⟨i, h1, e1⟩ := a.pot c j h e
  exact b.pot c i h1 e1⟩
theorem Fra.trans (a : Fra K TT n H m H1) (b : Fra K TT m H1 k H2) : Fra K TT n H k H2 := ⟨a.toFrb.trans b.toFrb, fun t => b.tab (a.tab t), fun t => b.st (a.st t)⟩
theorem Fra.grow (g : Grow H H') : Fra K TT n H n H' := ⟨.growB g, fun t => t.ext g, fun t => t.mono (.growB g) rfl fun a xs sh _ e => g _ _ e⟩
theorem Fra.pots {p : Addr} {j i : Nat} (h : H p = some (PotO j p)) (l : i ≤ cnt m) (h2 : cnt n ≤ cnt m) (hs : sto m = sto n) : Fra K TT n H m (upd H p (PotO i p)) := ⟨.pots h l h2, fun t => (Ext.pot (m := i) h).2 t, fun t => t.mono (.pots h l h2) hs fun a xs sh _ e => by
  rw [upd_ne fun z => ?_]
  · exact e
  · subst z
    rw [h] at e
    exact own_pot (Option.some.inj e).symm⟩
/-- an own list is written -/
theorem tabs_own {p : Addr} {o : HO} {sh : Shp} {xs : List V} (h : H p = some (OwnS sh xs p)) (t : Tabs TT H) : Tabs TT (upd H p o) := fun x hx => by
  obtain ⟨ps, h1, h2, h3⟩ := t x hx
  refine ⟨ps, ?_, h2, fun pos cv hc => ?_⟩
  · rw [upd_ne fun z => ?_]
    · exact h1
    · rw [z, h] at h1
      unfold OwnS at h1
      cases h1
  · obtain ⟨c, e1, e2⟩ := h3 pos cv hc
    refine ⟨c, e1, ?_⟩
    rw [upd_ne fun z => ?_]
    · exact e2
    · subst z
      rw [h] at e2
      exact own_code (Option.some.inj e2).symm
theorem Fra.wr {p : Addr} {sh : Shp} {o : HO} {xs : List V} (h : H p = some (OwnS sh xs p)) (hs : sto n p = none) : Fra K TT n H n (upd H p o) := ⟨.own h, tabs_own h, fun t => t.mono (.own h) rfl fun a ys sh' ns e => by
  rw [upd_ne fun z => ns (by rw [z]; exact hs)]
  exact e⟩
theorem Fra.own {p : Addr} {sh sh' : Shp} {xs ys : List V} (h : H p = some (OwnS sh xs p)) (hs : sto n p = none) : Fra K TT n H n (upd H p (OwnS sh' ys p)) := .wr h hs
end
/-- .. by an expression: own lists are as they were -/
structure Fre (K : PySem.W.Frag) (TT : List (Addr × Str)) (n : S) (H : Hp) (m : S) (H' : Hp) : Prop extends Fra K TT n H m H' where
  own : ∀ {sh : Shp} (b : Addr) (xs : List V), H b = some (OwnS sh xs b) → sto n b = none → H' b = some (OwnS sh xs b) ∧ sto m b = none
section
variable {TT : List (Addr × Str)} {K : PySem.W.Frag} {n m k : S} {H H1 H2 H' : Hp}
theorem Fre.refl : Fre K TT n H n H := ⟨.refl, fun _ _ e s => ⟨e, s⟩⟩
theorem Fre.trans (a : Fre K TT n H m H1) (b : Fre K TT m H1 k H2) : Fre K TT n H k H2 := ⟨a.toFra.trans b.toFra, fun c xs e s => b.own c xs (a.own c xs e s).1 (a.own c xs e s).2⟩
theorem Fre.grow (g : Grow H H') : Fre K TT n H n H' := ⟨.grow g, fun _ _ e s => ⟨g _ _ e, s⟩⟩
theorem Fre.pots {p : Addr} {j i : Nat} (h : H p = some (PotO j p)) (l : i ≤ cnt m) (h2 : cnt n ≤ cnt m) (hs : sto m = sto n) : Fre K TT n H m (upd H p (PotO i p)) := ⟨.pots h l h2 hs, fun b xs e s => by
  rw [upd_ne fun z => ?_]
  · exact ⟨e, by rw [hs]; exact s⟩
  · subst z
    rw [h] at e
    exact own_pot (Option.some.inj e).symm⟩
end
section
variable {TT : List (Addr × Str)} {K : PySem.W.Frag} {n m : S} {H H' : Hp}
theorem Sees.mono {v : V} {d : Dat} (e : Fra K TT n H m H') (s : Sees K n H v d) : Sees K m H' v d := s.monoB e.toFrb
theorem SeesL.mono {v : List V} {d : List Dat} (e : Fra K TT n H m H') (s : SeesL K n H v d) : SeesL K m H' v d := s.monoB e.toFrb
theorem Sees.grow {v : V} {d : Dat} (h : Sees K n H v d) (g : Grow H H') : Sees K n H' v d := h.monoB (.growB g)
theorem SeesL.grow {v : List V} {d : List Dat} (h : SeesL K n H v d) (g : Grow H H') : SeesL K n H' v d := h.monoB (.growB g)
theorem SeesL.length : ∀ {vs : List V} {ds : List Dat}, SeesL K n H vs ds → vs.length = ds.length
  | _, _, .nil => rfl
  | _, _, .cons _ r => congrArg (· + 1) (SeesL.length r)
theorem SeesL.get : ∀ {vs : List V} {ds : List Dat} {i : Nat} {v : V}, SeesL K n H vs ds → vs[i]? = some v → ∃ d, ds[i]? = some d ∧ Sees K n H v d
  | _, _, _, _, .nil, e => by simp at e
  | _, _, 0, _, .cons h _, e => by
    simp at e
    subst e
    exact ⟨_, rfl, h⟩
  | _, _, i + 1, _, .cons _ r, e => by
    obtain ⟨d, e1, e2⟩ := SeesL.get (i := i) r (by simpa using e)
    exact ⟨d, by simpa using e1, e2⟩
theorem SeesL.getD : ∀ {vs : List V} {ds : List Dat} {i : Nat} {d : Dat}, SeesL K n H vs ds → ds[i]? = some d → ∃ v, vs[i]? = some v ∧ Sees K n H v d
  | _, _, _, _, .nil, e => by simp at e
  | _, _, 0, _, .cons h _, e => by
    simp at e
    subst e
    exact ⟨_, rfl, h⟩
  | _, _, i + 1, _, .cons _ r, e => by
    obtain ⟨d, e1, e2⟩ := SeesL.getD (i := i) r (by simpa using e)
    exact ⟨d, by simpa using e1, e2⟩
theorem SeesL.append : ∀ {vs us : List V} {ds es : List Dat}, SeesL K n H vs ds → SeesL K n H us es → SeesL K n H (vs ++ us) (ds ++ es)
  | _, _, _, _, .nil, s => s
  | _, _, _, _, .cons h r, s => .cons h (SeesL.append r s)
theorem SeesL.take : ∀ {vs : List V} {ds : List Dat} (i : Nat), SeesL K n H vs ds → SeesL K n H (vs.take i) (ds.take i)
  | _, _, 0, _ => by simp; exact .nil
  | _, _, _ + 1, .nil => by simp; exact .nil
  | _, _, i + 1, .cons h r => .cons h (SeesL.take i r)
theorem SeesL.drop : ∀ {vs : List V} {ds : List Dat} (i : Nat), SeesL K n H vs ds → SeesL K n H (vs.drop i) (ds.drop i)
  | _, _, 0, r => r
  | _, _, _ + 1, .nil => .nil
  | _, _, i + 1, .cons _ r => SeesL.drop i r
theorem SeesL.set {x : V} {y : Dat} (hx : Sees K n H x y) : ∀ {vs : List V} {ds : List Dat} (i : Nat), SeesL K n H vs ds → SeesL K n H (vs.set i x) (ds.set i y)
  | _, _, _, .nil => .nil
  | _, _, 0, .cons _ r => .cons hx r
  | _, _, i + 1, .cons h r => .cons h (SeesL.set hx i r)
theorem SeesL.reverse : ∀ {vs : List V} {ds : List Dat}, SeesL K n H vs ds → SeesL K n H vs.reverse ds.reverse
  | _, _, .nil => .nil
  | _, _, .cons h r => by
    rw [List.reverse_cons, List.reverse_cons]
    exact (SeesL.reverse r).append (.cons h .nil)
/-- shapes -/
theorem Sees.int_iff {v : V} {i : Int} (h : Sees K n H v (.int i)) : v = .int i := by cases h; rfl
theorem Sees.bl_iff {v : V} {b : Bool} (h : Sees K n H v (.bl b)) : v = .bl b := by cases h; rfl
theorem Sees.str_iff {v : V} {x : Str} (h : Sees K n H v (.str x)) : v = .str x ∧ StrB x := by
  cases h with
  | str _ l => exact ⟨rfl, l⟩
theorem Sees.non_iff {v : V} (h : Sees K n H v .non) : v = .non := by cases h; rfl
theorem Sees.byt_iff {v : V} {x : Array UInt8} (h : Sees K n H v (.byt x)) : v = .byt x ∧ x.size ≤ sizeLine := by
  cases h with
  | byt _ l => exact ⟨rfl, l⟩
theorem Sees.ty_iff {v : V} {x : String} (h : Sees K n H v (.ty x)) : v = .ty x := by cases h; rfl
theorem Sees.ref_iff {v : V} {a : Addr} (h : Sees K n H v (.ref a)) : v = .ref a := by cases h; rfl
theorem Sees.tup_iffN {v : V} {ds : List Dat} (h : Sees K n H v (.tup ds)) : ∃ a xs, v = .ref a ∧ SqN K H a xs ∧ xs.length ≤ sizeLine ∧ SeesL K n H xs ds := by
  cases h with
  | tup h1 l h2 => exact ⟨_, _, rfl, h1, l, h2⟩
theorem Sees.tup_iff {v : V} {ds : List Dat} (h : Sees K n H v (.tup ds)) : ∃ a xs, v = .ref a ∧ SqT K H a xs ∧ xs.length ≤ sizeLine ∧ SeesL K n H xs ds := by
  obtain ⟨a, xs, e, h1, l, h2⟩ := h.tup_iffN
  exact ⟨a, xs, e, h1.sqT, l, h2⟩
theorem Sees.lst_iff {v : V} {ds : List Dat} (h : Sees K n H v (.lst ds)) : ∃ a xs, v = .ref a ∧ SqL K H a xs ∧ xs.length ≤ sizeLine ∧ SeesL K n H xs ds := by
  cases h with
  | lst h1 l h2 => exact ⟨_, _, rfl, .of h1, l, h2⟩
theorem Sees.lst_at {v : V} {ds : List Dat} (h : Sees K n H v (.lst ds)) : ∃ a xs, v = .ref a ∧ H a = some (.lst xs) ∧ xs.length ≤ sizeLine ∧ SeesL K n H xs ds := by
  cases h with
  | lst h1 l h2 => exact ⟨_, _, rfl, h1, l, h2⟩
theorem Sees.lstOf {p : Addr} {xs : List V} {ds : List Dat} (h : H p = some (.lst xs)) (l : xs.length ≤ sizeLine) (d : SeesL K n H xs ds) : Sees K n H (.ref p) (.lst ds) := .lst h l d
theorem Sees.tupOf {p : Addr} {o : Obj} {xs : List V} {ds : List Dat} (h : H p = some (.frz o (.tup xs))) (ho : o.dict = none) (l : xs.length ≤ sizeLine) (d : SeesL K n H xs ds) : Sees K n H (.ref p) (.tup ds) := .tup (.inl ⟨o, h, ho⟩) l d
/-- a new list, a new tuple -/
theorem Sees.newL {p : Addr} {xs : List V} {ds : List Dat} (h : H p = none) (l : xs.length ≤ sizeLine) (d : SeesL K n H xs ds) : Sees K n (upd H p (.lst xs)) (.ref p) (.lst ds) := .lstOf upd_same l (d.grow (.new h))
theorem Sees.newT {p : Addr} {o : Obj} {xs : List V} {ds : List Dat} (h : H p = none) (ho : o.dict = none) (l : xs.length ≤ sizeLine) (d : SeesL K n H xs ds) : Sees K n (upd H p (.frz o (.tup xs))) (.ref p) (.tup ds) := .tupOf upd_same ho l (d.grow (.new h))
end
/-! ### slots -/
inductive Sl where
  | no | val (d : Dat) | own (ds : List Dat) | ins (a C : Addr) (ks : List Str) (ds : List Dat)
inductive SlR (K : PySem.W.Frag) (n : S) (H : Hp) : Sl → Option V → Prop
  | no {o : Option V} : SlR K n H .no o
  | val {v : V} {d : Dat} : Sees K n H v d → SlR K n H (.val d) (some v)
  | own {a : Addr} {xs : List V} {ds : List Dat} : xs.length ≤ sizeLine → H a = some (OwnO xs a) → sto n a = none → SeesL K n H xs ds → SlR K n H (.own ds) (some (.ref a))
  | ins {C dx x : Addr} {ks : List Str} {xs : List V} {ds : List Dat} : ks.length = xs.length → H x = some (HidX C dx x) → H dx = some (OwnS (.ins ks) xs dx) → (sto n x = none ∧ sto n dx = none) → SeesL K n H xs ds → SlR K n H (.ins x C ks ds) (some (.ref x))
def Owns (ρ : List Sl) (σ : L2.St) (i : Nat) (a : Addr) : Prop := (∃ ds, ρ[i]? = some (.own ds)) ∧ σ[i]? = some (some (.ref a))
structure Rel (K : PySem.W.Frag) (ρ : List Sl) (n : S) (σ : L2.St) (H : Hp) : Prop where
  len : ρ.length = σ.length
  sl : ∀ (i : Nat) (s : Sl), ρ[i]? = some s → ∃ o, σ[i]? = some o ∧ SlR K n H s o
  ap : ∀ (i j : Nat) (a b : Addr), i ≠ j → Owns ρ σ i a → Owns ρ σ j b → a ≠ b
  st : StoOk K n H
section
variable {TT : List (Addr × Str)} {K : PySem.W.Frag} {n m : S} {H H' : Hp} {ρ : List Sl} {σ : L2.St}
theorem Rel.var {i : Nat} {d : Dat} (r : Rel K ρ n σ H) (h : ρ[i]? = some (.val d)) : ∃ v, σ[i]? = some (some v) ∧ Sees K n H v d := by
  obtain ⟨o, e, q⟩ := r.sl i _ h
  cases q with
  | val h => exact ⟨_, e, h⟩
theorem Rel.owned {i : Nat} {ds : List Dat} (r : Rel K ρ n σ H) (h : ρ[i]? = some (.own ds)) : ∃ a xs, σ[i]? = some (some (.ref a)) ∧ xs.length ≤ sizeLine ∧ H a = some (OwnO xs a) ∧ sto n a = none ∧ SeesL K n H xs ds := by
  obtain ⟨o, e, q⟩ := r.sl i _ h
  cases q with
  | own l h1 hs h2 => exact ⟨_, _, e, l, h1, hs, h2⟩
theorem not_makes {a dx : Addr} {ks : List Str} {xs ys : List V} {o : HO} (e : H a = some (OwnO ys a)) (l : ys.length ≤ sizeLine) (h : H dx = some (OwnS (.ins ks) xs dx)) : upd H a o dx = H dx := upd_ne fun w => by
  rw [w, e] at h
  exact own_kind l (Option.some.inj h).symm
theorem not_hid {a C dx x : Addr} {ys : List V} {o : HO} (e : H a = some (OwnO ys a)) (h : H x = some (HidX C dx x)) : upd H a o x = H x := upd_ne fun w => by
  rw [w, e] at h
  exact kind_inst (w ▸ (Option.some.inj h).symm)
theorem Rel.making {i : Nat} {x C : Addr} {ks : List Str} {ds : List Dat} (r : Rel K ρ n σ H) (h : ρ[i]? = some (.ins x C ks ds)) : ∃ dx xs, σ[i]? = some (some (.ref x)) ∧ ks.length = xs.length ∧ H x = some (HidX C dx x) ∧ H dx = some (OwnS (.ins ks) xs dx) ∧ (sto n x = none ∧ sto n dx = none) ∧ SeesL K n H xs ds := by
  obtain ⟨o, e, q⟩ := r.sl i _ h
  cases q with
  | ins l h1 h2 hs h3 => exact ⟨_, _, e, l, h1, h2, hs, h3⟩
theorem SlR.mono {s : Sl} {o : Option V} (h : SlR K n H s o) (e : Fra K TT n H m H') (k : ∀ a xs, o = some (.ref a) → xs.length ≤ sizeLine → H a = some (OwnO xs a) → sto n a = none → (∃ ds, s = .own ds) → H' a = H a ∧ sto m a = none)
    (k2 : ∀ C x dx ks ds xs, o = some (.ref x) → s = .ins x C ks ds → H x = some (HidX C dx x) → H dx = some (OwnS (.ins ks) xs dx) → sto n x = none → sto n dx = none → (H' dx = H dx ∧ H' x = H x) ∧ sto m x = none ∧ sto m dx = none) : SlR K m H' s o := by
  cases h with
  | no => exact .no
  | val h => exact .val (h.mono e)
  | own l h1 hs h2 => exact .own l ((k _ _ rfl l h1 hs ⟨_, rfl⟩).1.trans h1) (k _ _ rfl l h1 hs ⟨_, rfl⟩).2 (h2.mono e)
  | ins l h1 h2 hs h3 =>
    have z := k2 _ _ _ _ _ _ rfl rfl h1 h2 hs.1 hs.2
    exact .ins l (z.1.2.trans h1) (z.1.1.trans h2) z.2 (h3.mono e)
theorem Rel.mono (r : Rel K ρ n σ H) (e : Fra K TT n H m H') (k : ∀ i a xs, Owns ρ σ i a → xs.length ≤ sizeLine → H a = some (OwnO xs a) → sto n a = none → H' a = H a ∧ sto m a = none)
    (k2 : ∀ (i : Nat) (C x dx : Addr) (ks : List Str) (ds : List Dat) (xs : List V), ρ[i]? = some (Sl.ins x C ks ds) → H x = some (HidX C dx x) → H dx = some (OwnS (.ins ks) xs dx) → sto n x = none → sto n dx = none → (H' dx = H dx ∧ H' x = H x) ∧ sto m x = none ∧ sto m dx = none) : Rel K ρ m σ H' :=
  ⟨r.len, fun i s h => by
    obtain ⟨o, e1, q⟩ := r.sl i s h
    exact ⟨o, e1, q.mono e (fun a xs ea l h1 hs ⟨ds, hs'⟩ => k i a xs ⟨⟨ds, by rw [h, hs']⟩, by rw [e1, ea]⟩ l h1 hs) fun C x dx ks ds xs eo es h1 h2 => k2 i C x dx ks ds xs (by rw [h, es]) h1 h2⟩, r.ap, e.st r.st⟩
theorem Rel.grow (r : Rel K ρ n σ H) (g : Grow H H') : Rel K ρ n σ H' := r.mono (TT := []) (Fra.grow g) (fun i a xs _ _ h hs => ⟨by rw [g _ _ h, h], hs⟩) fun i C x dx ks ds xs _ hx h s1 s2 => ⟨⟨by rw [g _ _ h, h], by rw [g _ _ hx, hx]⟩, s1, s2⟩
theorem Rel.fre (r : Rel K ρ n σ H) (e : Fre K TT n H m H') : Rel K ρ m σ H' := r.mono e.toFra (fun i a xs _ _ h hs => ⟨by rw [(e.own _ _ h hs).1, h], (e.own _ _ h hs).2⟩) fun i C x dx ks ds xs _ hx h s1 s2 => ⟨⟨by rw [(e.own _ _ h s2).1, h], by rw [(e.own _ _ hx s1).1, hx]⟩, (e.own _ _ hx s1).2, (e.own _ _ h s2).2⟩
/-- a slot is stored -/
theorem Rel.put {i : Nat} {d : Dat} {v : V} (r : Rel K ρ n σ H) (h : Sees K n H v d) : Rel K (ρ.set i (.val d)) n (σ.set i (some v)) H := by
  refine ⟨by simpa using r.len, fun j s e => ?_, fun j k a b ne h1 h2 => ?_, r.st⟩
  · rw [List.getElem?_set] at e
    split at e
    · rename_i hij
      subst hij
      split at e
      · rename_i hl
        cases e
        refine ⟨some v, ?_, .val h⟩
        rw [List.getElem?_set_self (by rw [← r.len]; exact hl)]
      · cases e
    · rename_i hij
      obtain ⟨o, e1, q⟩ := r.sl j s e
      exact ⟨o, by rw [List.getElem?_set_ne hij]; exact e1, q⟩
  · have key : ∀ j a, Owns (ρ.set i (.val d)) (σ.set i (some v)) j a → Owns ρ σ j a := fun j a ⟨⟨ds, e1⟩, e2⟩ => by
      rw [List.getElem?_set] at e1
      split at e1
      · split at e1 <;> cases e1
      · rename_i hij
        rw [List.getElem?_set_ne hij] at e2
        exact ⟨⟨ds, e1⟩, e2⟩
    exact r.ap j k a b ne (key _ _ h1) (key _ _ h2)
/-- a slot is forgotten -/
theorem Rel.drop {i : Nat} {o : Option V} (r : Rel K ρ n σ H) : Rel K (ρ.set i .no) n (σ.set i o) H := by
  refine ⟨by simpa using r.len, fun j s e => ?_, fun j k a b ne h1 h2 => ?_, r.st⟩
  · rw [List.getElem?_set] at e
    split at e
    · rename_i hij
      subst hij
      split at e
      · rename_i hl
        cases e
        exact ⟨o, by rw [List.getElem?_set_self (by rw [← r.len]; exact hl)], .no⟩
      · cases e
    · rename_i hij
      obtain ⟨o', e1, q⟩ := r.sl j s e
      exact ⟨o', by rw [List.getElem?_set_ne hij]; exact e1, q⟩
  · have key : ∀ j a, Owns (ρ.set i .no) (σ.set i o) j a → Owns ρ σ j a := fun j a ⟨⟨ds, e1⟩, e2⟩ => by
      rw [List.getElem?_set] at e1
      split at e1
      · split at e1 <;> cases e1
      · rename_i hij
        rw [List.getElem?_set_ne hij] at e2
        exact ⟨⟨ds, e1⟩, e2⟩
    exact r.ap j k a b ne (key _ _ h1) (key _ _ h2)
/-- a slot gets a list of its own, from no other slot -/
theorem Rel.putOwn {i : Nat} {a : Addr} {xs : List V} {ds : List Dat} (r : Rel K ρ n σ H) (l : xs.length ≤ sizeLine) (h : H a = some (OwnO xs a)) (hs : sto n a = none) (d : SeesL K n H xs ds) (no : ∀ j b, j ≠ i → Owns ρ σ j b → b ≠ a) : Rel K (ρ.set i (.own ds)) n (σ.set i (some (.ref a))) H := by
  refine ⟨by simpa using r.len, fun j s e => ?_, fun j k b c ne h1 h2 => ?_, r.st⟩
  · rw [List.getElem?_set] at e
    split at e
    · rename_i hij
      subst hij
      split at e
      · rename_i hl
        cases e
        exact ⟨_, by rw [List.getElem?_set_self (by rw [← r.len]; exact hl)], .own l h hs d⟩
      · cases e
    · rename_i hij
      obtain ⟨o', e1, q⟩ := r.sl j s e
      exact ⟨o', by rw [List.getElem?_set_ne hij]; exact e1, q⟩
  · have key : ∀ j b, Owns (ρ.set i (.own ds)) (σ.set i (some (.ref a))) j b → (j = i ∧ b = a) ∨ (j ≠ i ∧ Owns ρ σ j b) := fun j b ⟨⟨es, e1⟩, e2⟩ => by
      by_cases hij : i = j
      · subst hij
        rw [List.getElem?_set] at e2
        split at e2
        · split at e2
          · cases e2
            exact .inl ⟨rfl, rfl⟩
          · cases e2
        · rename_i z
          exact absurd rfl z
      · rw [List.getElem?_set_ne hij] at e1 e2
        exact .inr ⟨fun z => hij z.symm, ⟨es, e1⟩, e2⟩
    rcases key _ _ h1 with ⟨rfl, rfl⟩ | ⟨hj, o1⟩
    · rcases key _ _ h2 with ⟨rfl, rfl⟩ | ⟨hk, o2⟩
      · exact absurd rfl ne
      · exact (no _ _ hk o2).symm
    · rcases key _ _ h2 with ⟨rfl, rfl⟩ | ⟨hk, o2⟩
      · exact no _ _ hj o1
      · exact r.ap _ _ _ _ ne o1 o2
end
end Aim

namespace Aim
open PySem PySem.Spec PyProof.Rows L2
open LamX (TabB Tabs CodeO)
open Stt (cnt sto)
variable {S : Type} [Stt S]
/-! ### readings by data -/
abbrev GRX (S : Type) := Addr → Dat → S → Prop
abbrev RX := GRX Nat
abbrev R0 {S : Type} : GRX S := fun _ _ _ => False
abbrev GDE (S : Type) := List Sl → S → (Dat → S → Prop) → GRX S → Prop
abbrev DE := GDE Nat
abbrev GDT (S : Type) := List Sl → S → (Bool → S → Prop) → GRX S → Prop
abbrev DT := GDT Nat
abbrev GDA (S : Type) := List Sl → S → (List Dat → S → Prop) → GRX S → Prop
abbrev DA := GDA Nat
/-- what is wanted of errors; the code tables are there -/
structure ExOk (K : PySem.W.Frag) (TT : List (Addr × Str)) (E : XK) (n : S) (H : Hp) (R : GRX S) : Prop where
  tab : Tabs TT H
  ex : ∀ (C : Addr) (d : Dat) (m : S) (dd : Addr) (v : V) (H' : Hp), R C d m → Fra K TT n H m H' → H' dd = some (.xd [("value", v)]) → Sees K m H' v d → E (.ref C) (some dd) H'
/-- .. by an expression -/
structure ExE (K : PySem.W.Frag) (TT : List (Addr × Str)) (E : XK) (n : S) (H : Hp) (R : GRX S) : Prop where
  tab : Tabs TT H
  ex : ∀ (C : Addr) (d : Dat) (m : S) (dd : Addr) (v : V) (H' : Hp), R C d m → Fre K TT n H m H' → H' dd = some (.xd [("value", v)]) → Sees K m H' v d → E (.ref C) (some dd) H'
theorem ExOk.toE {K : PySem.W.Frag} {TT : List (Addr × Str)} {E : XK} {n : S} {H : Hp} {R : GRX S} (x : ExOk K TT E n H R) : ExE K TT E n H R := ⟨x.tab, fun C d m dd v H' r f => x.ex C d m dd v H' r f.toFra⟩
section
variable (K : PySem.W.Frag) (TT : List (Addr × Str)) (E : XK)
/-- from a state told by slots of data: a value that shows P's data -/
def LE (f : GDE S) : TE := fun σ H Q => ∃ ρ n P R, Rel K ρ n σ H ∧ f ρ n P R ∧ (∀ d m v H', P d m → Fre K TT n H m H' → Sees K m H' v d → Q v H') ∧ ExE K TT E n H R
def LTs (f : GDT S) : L2.TT := fun σ H Q => ∃ ρ n P R, Rel K ρ n σ H ∧ f ρ n P R ∧ (∀ b m H', P b m → Fre K TT n H m H' → Q b H') ∧ ExE K TT E n H R
def LA (f : GDA S) : TA := fun σ H Q => ∃ ρ n P R, Rel K ρ n σ H ∧ f ρ n P R ∧ (∀ ds m vs H', P ds m → Fre K TT n H m H' → SeesL K m H' vs ds → Q vs H') ∧ ExE K TT E n H R
end
section
variable {K : PySem.W.Frag} {TT : List (Addr × Str)} {E : XK} {X : Cx}
theorem ExOk.mono {n m : S} {H H1 : Hp} {R : GRX S} (x : ExOk K TT E n H R) (f : Fra K TT n H m H1) : ExOk K TT E m H1 R := ⟨f.tab x.tab, fun C d k dd v H' r g => x.ex C d k dd v H' r (f.trans g)⟩
theorem ExOk.zero {n : S} {H : Hp} (t : Tabs TT H) : ExOk K TT E n H R0 := ⟨t, fun _ _ _ _ _ _ z => z.elim⟩
theorem ExE.mono {n m : S} {H H1 : Hp} {R : GRX S} (x : ExE K TT E n H R) (f : Fre K TT n H m H1) : ExE K TT E m H1 R := ⟨f.tab x.tab, fun C d k dd v H' r g => x.ex C d k dd v H' r (f.trans g)⟩
theorem ExE.zero {n : S} {H : Hp} (t : Tabs TT H) : ExE K TT E n H R0 := ⟨t, fun _ _ _ _ _ _ z => z.elim⟩
theorem _root_.L2.PE.imp {e : Expr} {t t' : TE} (h : PE X e t) (i : ∀ σ H Q, t' σ H Q → t σ H Q) : PE X e t' := ⟨fun pins s σ H Q I q => h.run pins s σ H Q I (i _ _ _ q)⟩
theorem _root_.L2.PT.imp {e : Expr} {t t' : L2.TT} (h : PT X e t) (i : ∀ σ H Q, t' σ H Q → t σ H Q) : PT X e t' := ⟨fun pins s σ H Q I q => h.run pins s σ H Q I (i _ _ _ q)⟩
theorem _root_.L2.PW.imp {e : Expr} {t t' : L2.TT} (h : PW X e t) (i : ∀ σ H Q, t' σ H Q → t σ H Q) : PW X e t' := ⟨fun w pins s σ H Q I q => h.run w pins s σ H Q I (i _ _ _ q)⟩
theorem _root_.L2.PA.imp {e : List Expr} {t t' : TA} (h : PA X e t) (i : ∀ σ H Q, t' σ H Q → t σ H Q) : PA X e t' := ⟨fun p pins s σ H Q I q => h.run p pins s σ H Q I (i _ _ _ q)⟩
theorem _root_.L2.PS.imp {e : Stmt} {t t' : TS} (h : PS X e t) (i : ∀ D σ H, t' D σ H → t D σ H) : PS X e t' := ⟨fun pins s σ H Q I q => h.run pins s σ H Q I (i _ _ _ q)⟩
theorem _root_.L2.PSs.imp {e : List Stmt} {t t' : TS} (h : PSs X e t) (i : ∀ D σ H, t' D σ H → t D σ H) : PSs X e t' := ⟨fun pins s σ H Q I q => h.run pins s σ H Q I (i _ _ _ q)⟩
theorem _root_.L2.PO.imp {e : Option Expr} {t t' : TO} (h : PO X e t) (i : ∀ σ H Q, t' σ H Q → t σ H Q) : PO X e t' := ⟨fun pins s σ H Q I q => h.run pins s σ H Q I (i _ _ _ q)⟩
/-! ### names, constants -/
/-- what a slot shows -/
def slV : Sl → (Dat → Prop) → Prop
  | .val d, P => P d
  | _, _ => False
def slAt (ρ : List Sl) (i : Nat) : Sl := (ρ[i]?).getD .no
theorem slAt_of {ρ : List Sl} {i : Nat} {s : Sl} (h : slAt ρ i = s) (n : s ≠ .no) : ρ[i]? = some s := by
  unfold slAt at h
  cases e : ρ[i]? with
  | none => rw [e] at h; exact absurd h.symm n
  | some z => rw [e] at h; rw [← h]; rfl
def dVar (i : Nat) : GDE S := fun ρ n P _ => slV (slAt ρ i) fun d => P d n
def dC (d : Dat) : GDE S := fun _ n P _ => P d n
theorem de_var {i : Nat} {e : Expr} (h : PE X e (tVar i)) : PE X e (LE (S := S) K TT E (dVar i)) := h.imp fun σ H Q ⟨ρ, n, P, R, r, f, k, _⟩ => by
  unfold dVar at f
  cases e : slAt ρ i with
  | val d =>
    rw [e] at f
    obtain ⟨v, h1, h2⟩ := r.var (slAt_of e (by simp))
    exact ⟨v, h1, k d n v H f .refl h2⟩
  | _ => rw [e] at f; exact f.elim
theorem de_c {e : Expr} {v : V} {d : Dat} (h : PE X e (tC v)) (s : ∀ (n : S) H, Sees K n H v d) : PE X e (LE (S := S) K TT E (dC d)) := h.imp fun σ H Q ⟨ρ, n, P, R, r, f, k, _⟩ => k d n v H f .refl (s n H)
theorem de_int {i j pos} : PE X (.Constant (.int i) j pos) (LE (S := S) K TT E (dC (.int i))) := de_c pe_int fun _ _ => .int i
theorem de_bl {b j pos} : PE X (.Constant (.bool b) j pos) (LE (S := S) K TT E (dC (.bl b))) := de_c pe_bl fun _ _ => .bl b
theorem de_non {j pos} : PE X (.Constant .none j pos) (LE (S := S) K TT E (dC .non)) := de_c pe_non fun _ _ => .non
theorem de_str {x : Str} {j pos} (l : StrB x := by exact ⟨by decide +kernel, by decide +kernel⟩) : PE X (.Constant (.str x) j pos) (LE (S := S) K TT E (dC (.str x))) := de_c pe_str fun _ _ => .str x l
/-- a global, by what it shows at every heap -/
theorem de_gl {e : Expr} {v : V} {d : Dat} (h : PE X e (tC v)) (s : ∀ (n : S) H, Sees K n H v d) : PE X e (LE (S := S) K TT E (dC d)) := de_c h s
/-! ### operators by data -/
/-- f of x and y, by the data that they show; what is new grows -/
abbrev G2 := Dat → Dat → (Dat → Prop) → Prop
def OpD (K : PySem.W.Frag) (r : R2) (g : G2) : Prop := ∀ {U : Type} [Stt U] (n : U) (x y : V) (d e : Dat) (H : Hp) (Q : VK) (P : Dat → Prop), g d e P → Sees K n H x d → Sees K n H y e → (∀ z v H', P z → Grow H H' → Sees K n H' v z → Q v H') → r x y H Q
def dOp (g : G2) (fa fb : GDE S) : GDE S := fun ρ n P R => fa ρ n (fun d m => fb ρ m (fun e k => g d e fun z => P z k) R) R
theorem LE.op {r : R2} {g : G2} (o : OpD K r g) {fa fb : GDE S} {σ : L2.St} {H : Hp} {Q : VK} (h : LE K TT E (dOp g fa fb) σ H Q) : tOp r (LE K TT E fa) (LE K TT E fb) σ H Q := by
  obtain ⟨ρ, n, P, R, rl, f, k, x⟩ := h
  refine ⟨ρ, n, _, R, rl, f, fun d m v H1 q1 e1 s1 => ⟨ρ, m, _, R, rl.fre e1, q1, fun e j u H2 q2 e2 s2 => ?_, x.mono e1⟩, x⟩
  exact o j v u d e H2 Q _ q2 (s1.mono e2.toFra) s2 fun z w H3 p g3 s3 => k z j w H3 p ((e1.trans e2).trans (.grow g3)) s3
theorem de_op {f : Operator} {r : R2} {g : G2} {a b : Expr} {fa fb : GDE S} {pos : Pos} (ho : OpR X (binaryOp f) r) (o : OpD K r g) (ha : PE X a (LE K TT E fa)) (hb : PE X b (LE K TT E fb)) : PE X (.BinOp a f b pos) (LE K TT E (dOp g fa fb)) := (pe_op ho ha hb).imp fun _ _ _ h => h.op o
theorem de_cmp {op : CmpOp} {r : R2} {g : G2} {a b : Expr} {fa fb : GDE S} {pos : Pos} (ho : OpR X (compareOp op) r) (o : OpD K r g) (ha : PE X a (LE K TT E fa)) (hb : PE X b (LE K TT E fb)) (hm : behindInMarks op b = false) : PE X (.Compare a [op] [b] pos) (LE K TT E (dOp g fa fb)) := (pe_cmpR ho ha hb hm).imp fun _ _ _ h => h.op o
/-- a test by a truth -/
def asB : Dat → (Bool → Prop) → Prop
  | .bl b, P => P b
  | _, _ => False
def dTst (f : GDE S) : GDT S := fun ρ n P R => f ρ n (fun d m => asB d fun b => P b m) R
theorem asB_of {d : Dat} {P : Bool → Prop} (h : asB d P) : ∃ b, d = .bl b ∧ P b := by
  cases d with
  | bl b => exact ⟨b, rfl, h⟩
  | _ => exact h.elim
theorem LTs.tst {f : GDE S} {σ : L2.St} {H : Hp} {Q : Bool → Hp → Prop} (h : LTs K TT E (dTst f) σ H Q) : LE K TT E f σ H fun x H' => ∃ k, x = .bl k ∧ Q k H' := by
  obtain ⟨ρ, n, P, R, rl, f, k, x⟩ := h
  refine ⟨ρ, n, _, R, rl, f, fun d m v H1 q1 e1 s1 => ?_, x⟩
  obtain ⟨b, rfl, p⟩ := asB_of q1
  exact ⟨b, s1.bl_iff, k b m H1 p e1⟩
theorem dt_val {e : Expr} {f : GDE S} (h : PE X e (LE K TT E f)) (he : ∀ whole, isTrue e X.env whole = (do let v ← whole; standAt e.pos; holding [v] (truthy v)) := by intro _; rfl) : PT X e (LTs K TT E (dTst f)) := (pt_val h he).imp fun _ _ _ q => q.tst
theorem dt_cmp {op : CmpOp} {r : R2} {g : G2} {a b : Expr} {fa fb : GDE S} {pos : Pos} (ho : OpR X (compareOp op) r) (o : OpD K r g) (ha : PE X a (LE K TT E fa)) (hb : PE X b (LE K TT E fb)) (hm : behindInMarks op b = false) : PT X (.Compare a [op] [b] pos) (LTs K TT E (dTst (dOp g fa fb))) :=
  (pt_cmpR ho ha hb hm).imp fun _ _ _ h => by
    have q := h.tst
    exact q.op o
/-- is None -/
def isNon : Dat → Bool
  | .non => true
  | _ => false
theorem Sees.isNon {n : S} {H : Hp} {v : V} {d : Dat} (h : Sees K n H v d) : decide (v = .non) = isNon d := by cases h <;> simp [Aim.isNon]
def dUn (g : Dat → (Dat → Prop) → Prop) (f : GDE S) : GDE S := fun ρ n P R => f ρ n (fun d m => g d fun z => P z m) R
def gIsN : Dat → (Dat → Prop) → Prop := fun d P => P (.bl (isNon d))
def gNotN : Dat → (Dat → Prop) → Prop := fun d P => P (.bl (!isNon d))
theorem LE.isN {f : GDE S} {σ : L2.St} {H : Hp} {Q : VK} (h : LE K TT E (dUn gIsN f) σ H Q) : tIsN (LE K TT E f) σ H Q := by
  obtain ⟨ρ, n, P, R, rl, f, k, x⟩ := h
  refine ⟨ρ, n, _, R, rl, f, fun d m v H1 q1 e1 s1 => ?_, x⟩
  show Q (.bl _) H1
  rw [s1.isNon]
  exact k _ m _ H1 q1 e1 (.bl _)
theorem LE.notN {f : GDE S} {σ : L2.St} {H : Hp} {Q : VK} (h : LE K TT E (dUn gNotN f) σ H Q) : tNotN (LE K TT E f) σ H Q := by
  obtain ⟨ρ, n, P, R, rl, f, k, x⟩ := h
  refine ⟨ρ, n, _, R, rl, f, fun d m v H1 q1 e1 s1 => ?_, x⟩
  show Q (.bl _) H1
  rw [s1.isNon]
  exact k _ m _ H1 q1 e1 (.bl _)
theorem de_isN {a : Expr} {f : GDE S} {j p pos} (h : PE X a (LE K TT E f)) : PE X (.Compare a [.Is] [.Constant .none j p] pos) (LE K TT E (dUn gIsN f)) := (pe_cmp (pc_isN h)).imp fun _ _ _ h => h.isN
theorem de_notN {a : Expr} {f : GDE S} {j p pos} (h : PE X a (LE K TT E f)) : PE X (.Compare a [.IsNot] [.Constant .none j p] pos) (LE K TT E (dUn gNotN f)) := (pe_cmp (pc_notN h)).imp fun _ _ _ h => h.notN
theorem dt_isN {a : Expr} {f : GDE S} {j p pos} (h : PE X a (LE K TT E f)) : PT X (.Compare a [.Is] [.Constant .none j p] pos) (LTs K TT E (dTst (dUn gIsN f))) := (pt_cmp (pc_isN h)).imp fun _ _ _ h => by
  have q := h.tst
  exact q.isN
theorem dt_notN {a : Expr} {f : GDE S} {j p pos} (h : PE X a (LE K TT E f)) : PT X (.Compare a [.IsNot] [.Constant .none j p] pos) (LTs K TT E (dTst (dUn gNotN f))) := (pt_cmp (pc_notN h)).imp fun _ _ _ h => by
  have q := h.tst
  exact q.notN
/-! ### and, or, not, if -/
def dAndT (a b : GDT S) : GDT S := fun ρ n P R => a ρ n (fun c m => if c = true then b ρ m P R else P false m) R
def dOrT (a b : GDT S) : GDT S := fun ρ n P R => a ρ n (fun c m => if c = true then P true m else b ρ m P R) R
def dNotT (a : GDT S) : GDT S := fun ρ n P R => a ρ n (fun c m => P (!c) m) R
def dIf (t : GDT S) (a b : GDE S) : GDE S := fun ρ n P R => t ρ n (fun c m => if c = true then a ρ m P R else b ρ m P R) R
def dAnd (a b : GDE S) : GDE S := fun ρ n P R => a ρ n (fun d m => asB d fun c => if c = true then b ρ m P R else P (.bl false) m) R
def dOr (a b : GDE S) : GDE S := fun ρ n P R => a ρ n (fun d m => asB d fun c => if c = true then P (.bl true) m else b ρ m P R) R
def dNot (a : GDE S) : GDE S := fun ρ n P R => a ρ n (fun d m => asB d fun c => P (.bl (!c)) m) R
variable {a b : Expr} {rest : List Expr} {fa fb : GDE S} {ta tb : GDT S} {pos : Pos}
theorem dw_and1 (ha : PT X a (LTs K TT E ta)) : PW X (.BoolOp .And [a] pos) (LTs K TT E ta) := pw_and1 ha
theorem dw_or1 (ha : PT X a (LTs K TT E ta)) : PW X (.BoolOp .Or [a] pos) (LTs K TT E ta) := pw_or1 ha
theorem dw_and (ha : PT X a (LTs K TT E ta)) (hb : PW X (.BoolOp .And (b :: rest) pos) (LTs K TT E tb)) : PW X (.BoolOp .And (a :: b :: rest) pos) (LTs K TT E (dAndT ta tb)) := (pw_and ha hb).imp fun σ H Q h => by
  obtain ⟨ρ, n, P, R, rl, f, k, x⟩ := h
  refine ⟨ρ, n, _, R, rl, f, fun c m H1 q1 e1 => ?_, x⟩
  cases c with
  | true => exact ⟨ρ, m, _, R, rl.fre e1, q1, fun c2 j H2 q2 e2 => k c2 j H2 q2 (e1.trans e2), x.mono e1⟩
  | false => exact k _ m H1 q1 e1
theorem dw_or (ha : PT X a (LTs K TT E ta)) (hb : PW X (.BoolOp .Or (b :: rest) pos) (LTs K TT E tb)) : PW X (.BoolOp .Or (a :: b :: rest) pos) (LTs K TT E (dOrT ta tb)) := (pw_or ha hb).imp fun σ H Q h => by
  obtain ⟨ρ, n, P, R, rl, f, k, x⟩ := h
  refine ⟨ρ, n, _, R, rl, f, fun c m H1 q1 e1 => ?_, x⟩
  cases c with
  | false => exact ⟨ρ, m, _, R, rl.fre e1, q1, fun c2 j H2 q2 e2 => k c2 j H2 q2 (e1.trans e2), x.mono e1⟩
  | true => exact k _ m H1 q1 e1
theorem dt_not (ha : PT X a (LTs K TT E ta)) : PT X (.UnaryOp .Not a pos) (LTs K TT E (dNotT ta)) := (pt_not ha).imp fun σ H Q h => by
  obtain ⟨ρ, n, P, R, rl, f, k, x⟩ := h
  exact ⟨ρ, n, _, R, rl, f, fun c m H1 q1 e1 => k _ m H1 q1 e1, x⟩
theorem de_if {c : Expr} (hc : PT X c (LTs K TT E ta)) (ha : PE X a (LE K TT E fa)) (hb : PE X b (LE K TT E fb)) : PE X (.IfExp c a b pos) (LE K TT E (dIf ta fa fb)) := (pe_ifExp hc ha hb).imp fun σ H Q h => by
  obtain ⟨ρ, n, P, R, rl, f, k, x⟩ := h
  refine ⟨ρ, n, _, R, rl, f, fun c m H1 q1 e1 => ?_, x⟩
  cases c with
  | true => exact ⟨ρ, m, _, R, rl.fre e1, q1, fun d j v H2 q2 e2 s2 => k d j v H2 q2 (e1.trans e2) s2, x.mono e1⟩
  | false => exact ⟨ρ, m, _, R, rl.fre e1, q1, fun d j v H2 q2 e2 s2 => k d j v H2 q2 (e1.trans e2) s2, x.mono e1⟩
theorem de_and (ha : PE X a (LE K TT E fa)) (hb : PE X (.BoolOp .And (b :: rest) pos) (LE K TT E fb)) : PE X (.BoolOp .And (a :: b :: rest) pos) (LE K TT E (dAnd fa fb)) := (pe_and ha hb).imp fun σ H Q h => by
  obtain ⟨ρ, n, P, R, rl, f, k, x⟩ := h
  refine ⟨ρ, n, _, R, rl, f, fun d m v H1 q1 e1 s1 => ?_, x⟩
  obtain ⟨c, rfl, q⟩ := asB_of q1
  refine ⟨c, s1.bl_iff, ?_⟩
  cases c with
  | true => exact ⟨ρ, m, _, R, rl.fre e1, q, fun d j v H2 q2 e2 s2 => k d j v H2 q2 (e1.trans e2) s2, x.mono e1⟩
  | false => exact k _ m _ H1 q e1 (.bl _)
theorem de_or (ha : PE X a (LE K TT E fa)) (hb : PE X (.BoolOp .Or (b :: rest) pos) (LE K TT E fb)) : PE X (.BoolOp .Or (a :: b :: rest) pos) (LE K TT E (dOr fa fb)) := (pe_or ha hb).imp fun σ H Q h => by
  obtain ⟨ρ, n, P, R, rl, f, k, x⟩ := h
  refine ⟨ρ, n, _, R, rl, f, fun d m v H1 q1 e1 s1 => ?_, x⟩
  obtain ⟨c, rfl, q⟩ := asB_of q1
  refine ⟨c, s1.bl_iff, ?_⟩
  cases c with
  | false => exact ⟨ρ, m, _, R, rl.fre e1, q, fun d j v H2 q2 e2 s2 => k d j v H2 q2 (e1.trans e2) s2, x.mono e1⟩
  | true => exact k _ m _ H1 q e1 (.bl _)
theorem de_one {op} (h : PE X a (LE K TT E fa)) : PE X (.BoolOp op [a] pos) (LE K TT E fa) := pe_one h
theorem de_not (ha : PE X a (LE K TT E fa)) : PE X (.UnaryOp .Not a pos) (LE K TT E (dNot fa)) := (pe_not ha).imp fun σ H Q h => by
  obtain ⟨ρ, n, P, R, rl, f, k, x⟩ := h
  refine ⟨ρ, n, _, R, rl, f, fun d m v H1 q1 e1 s1 => ?_, x⟩
  obtain ⟨c, rfl, q⟩ := asB_of q1
  exact ⟨c, s1.bl_iff, k _ m _ H1 q e1 (.bl _)⟩
/-- a op1 b op2 c -/
def dChain (g g' : G2) (fa fb fc : GDE S) : GDE S := fun ρ n P R => fa ρ n (fun d m => fb ρ m (fun e k => g d e fun z => asB z fun c => if c = true then fc ρ k (fun w j => g' e w fun y => P y j) R else P (.bl false) k) R) R
theorem LE.chain {r r' : R2} {g g' : G2} (o : OpD K r g) (o' : OpD K r' g') {fa fb fc : GDE S} {σ : L2.St} {H : Hp} {Q : VK} (h : LE K TT E (dChain g g' fa fb fc) σ H Q) : tChain r r' (LE K TT E fa) (LE K TT E fb) (LE K TT E fc) σ H Q := by
  obtain ⟨ρ, n, P, R, rl, f, k, x⟩ := h
  refine ⟨ρ, n, _, R, rl, f, fun d m v H1 q1 e1 s1 => ⟨ρ, m, _, R, rl.fre e1, q1, fun e j u H2 q2 e2 s2 => ?_, x.mono e1⟩, x⟩
  refine o j v u d e H2 _ _ q2 (s1.mono e2.toFra) s2 fun z w H3 p g3 s3 => ?_
  obtain ⟨c, rfl, q⟩ := asB_of p
  have e3 : Fre K TT n H j H3 := (e1.trans e2).trans (.grow g3)
  refine ⟨c, s3.bl_iff, ?_⟩
  cases c with
  | false => exact k _ j _ H3 q e3 (.bl _)
  | true =>
    refine ⟨ρ, j, _, R, rl.fre e3, q, fun w2 i y H4 q4 e4 s4 => ?_, x.mono e3⟩
    exact o' i u y e w2 H4 Q _ q4 ((s2.grow g3).mono e4.toFra) s4 fun z w H5 p g5 s5 => k z i w H5 p ((e3.trans e4).trans (.grow g5)) s5
theorem de_chain {op op' : CmpOp} {r r' : R2} {g g' : G2} {c : Expr} {fc : GDE S} (ho : OpR X (compareOp op) r) (ho' : OpR X (compareOp op') r') (o : OpD K r g) (o' : OpD K r' g') (ha : PE X a (LE K TT E fa)) (hb : PE X b (LE K TT E fb)) (hc : PE X c (LE K TT E fc))
    (hm : lastMarks [op, op'] [b, c] = false := by with_unfolding_all rfl) : PE X (.Compare a [op, op'] [b, c] pos) (LE K TT E (dChain g g' fa fb fc)) := (pe_chain ho ho' ha hb hc hm).imp fun _ _ _ h => h.chain o o'
theorem dt_chain {op op' : CmpOp} {r r' : R2} {g g' : G2} {c : Expr} {fc : GDE S} (ho : OpR X (compareOp op) r) (ho' : OpR X (compareOp op') r') (o : OpD K r g) (o' : OpD K r' g') (ha : PE X a (LE K TT E fa)) (hb : PE X b (LE K TT E fb)) (hc : PE X c (LE K TT E fc))
    (hm : lastMarks [op, op'] [b, c] = false := by with_unfolding_all rfl) : PT X (.Compare a [op, op'] [b, c] pos) (LTs K TT E (dTst (dChain g g' fa fb fc))) := (pt_chain ho ho' ha hb hc hm).imp fun _ _ _ h => by
  have q := h.tst
  exact q.chain o o'
/-! ### argument lists, displays, built-in functions -/
def dNil : GDA S := fun _ n P _ => P [] n
def dCons (f : GDE S) (r : GDA S) : GDA S := fun ρ n P R => f ρ n (fun d m => r ρ m (fun ds k => P (d :: ds) k) R) R
variable {e : Expr} {es : List Expr} {fr : GDA S}
theorem da_nil : PA X [] (LA (S := S) K TT E dNil) := pa_nil.imp fun σ H Q ⟨ρ, n, P, R, rl, f, k, x⟩ => k [] n [] H f .refl .nil
theorem da_cons (ha : PE X e (LE K TT E fa)) (hr : PA X es (LA K TT E fr)) (hs : starEach (e :: es) X.env = (false, eval e X.env) :: starEach es X.env := by rfl) : PA X (e :: es) (LA K TT E (dCons fa fr)) := (pa_cons ha hr hs).imp fun σ H Q ⟨ρ, n, P, R, rl, f, k, x⟩ =>
  ⟨ρ, n, _, R, rl, f, fun d m v H1 q1 e1 s1 => ⟨ρ, m, _, R, rl.fre e1, q1, fun ds j vs H2 q2 e2 s2 => k (d :: ds) j (v :: vs) H2 q2 (e1.trans e2) (.cons (s1.mono e2.toFra) s2), x.mono e1⟩, x⟩
def dTup (t : GDA S) : GDE S := fun ρ n P R => t ρ n (fun ds m => ds.length ≤ sizeLine ∧ P (.tup ds) m) R
def dLst (t : GDA S) : GDE S := fun ρ n P R => t ρ n (fun ds m => ds.length ≤ sizeLine ∧ P (.lst ds) m) R
theorem de_tup {x1} (h : PA X es (LA K TT E fr)) : PE X (.Tuple es x1 pos) (LE K TT E (dTup fr)) := (pe_tupN h).imp fun σ H Q ⟨ρ, n, P, R, rl, f, k, x⟩ =>
  ⟨ρ, n, _, R, rl, f, fun ds m vs H1 q1 e1 s1 => ⟨by rw [s1.length]; exact q1.1, fun p o hp ho => k _ m _ _ q1.2 (e1.trans (.grow (.new hp))) (.newT hp ho (by rw [s1.length]; exact q1.1) s1)⟩, x⟩
theorem de_lst (h : PA X es (LA K TT E fr)) : PE X (.List es pos) (LE K TT E (dLst fr)) := (pe_lst h).imp fun σ H Q ⟨ρ, n, P, R, rl, f, k, x⟩ =>
  ⟨ρ, n, _, R, rl, f, fun ds m vs H1 q1 e1 s1 => ⟨by rw [s1.length]; exact q1.1, fun p hp => k _ m _ _ q1.2 (e1.trans (.grow (.new hp))) (.newL hp (by rw [s1.length]; exact q1.1) s1)⟩, x⟩
abbrev GA := List Dat → (Dat → Prop) → Prop
def CallD (K : PySem.W.Frag) (r : List V → Hp → VK → Prop) (g : GA) : Prop := ∀ {U : Type} [Stt U] (n : U) (vs : List V) (ds : List Dat) (H : Hp) (Q : VK) (P : Dat → Prop), g ds P → SeesL K n H vs ds → (∀ z v H', P z → Grow H H' → Sees K n H' v z → Q v H') → r vs H Q
def dCB (g : GA) (t : GDA S) : GDE S := fun ρ n P R => t ρ n (fun ds m => g ds fun z => P z m) R
theorem LE.cb {r : List V → Hp → VK → Prop} {g : GA} (o : CallD K r g) {σ : L2.St} {H : Hp} {Q : VK} (h : LE K TT E (dCB g fr) σ H Q) : tCB r (LA K TT E fr) σ H Q := by
  obtain ⟨ρ, n, P, R, rl, f, k, x⟩ := h
  exact ⟨ρ, n, _, R, rl, f, fun ds m vs H1 q1 e1 s1 => o m vs ds H1 Q _ q1 s1 fun z v H2 p g2 s2 => k z m v H2 p (e1.trans (.grow g2)) s2, x⟩
theorem de_cb {r : List V → Hp → VK → Prop} {g : GA} (o : CallD K r g) (h : PE X e (tCB r (LA K TT E fr))) : PE X e (LE K TT E (dCB g fr)) := h.imp fun _ _ _ q => q.cb o
/-- a built-in type's method -/
abbrev GM := Dat → List Dat → (Dat → Prop) → Prop
def MethD (K : PySem.W.Frag) (T : String) (r : V → List V → Hp → VK → Prop) (g : GM) : Prop := ∀ {U : Type} [Stt U] (n : U) (x : V) (d : Dat) (vs : List V) (ds : List Dat) (H : Hp) (Q : VK) (P : Dat → Prop), g d ds P → Sees K n H x d → SeesL K n H vs ds → (∀ z v H', P z → Grow H H' → Sees K n H' v z → Q v H') → r x vs H Q
def TyD (K : PySem.W.Frag) (T : String) (ok : Dat → Bool) : Prop := ∀ {U : Type} [Stt U] (n : U) (x : V) (d : Dat) (H : Hp), Sees K n H x d → ok d = true → tyV K T x H
def dBM (ok : Dat → Bool) (g : GM) (fo : GDE S) (t : GDA S) : GDE S := fun ρ n P R => fo ρ n (fun d m => ok d = true ∧ t ρ m (fun ds k => g d ds fun z => P z k) R) R
theorem LE.bm {T : String} {r : V → List V → Hp → VK → Prop} {g : GM} {ok : Dat → Bool} (o : MethD K T r g) (ty : TyD K T ok) {fo : GDE S} {σ : L2.St} {H : Hp} {Q : VK} (h : LE K TT E (dBM ok g fo fr) σ H Q) : tBM K T r (LE K TT E fo) (LA K TT E fr) σ H Q := by
  obtain ⟨ρ, n, P, R, rl, f, k, x⟩ := h
  refine ⟨ρ, n, _, R, rl, f, fun d m v H1 q1 e1 s1 => ⟨ty m v d H1 s1 q1.1, ρ, m, _, R, rl.fre e1, q1.2, fun ds j vs H2 q2 e2 s2 => ?_, x.mono e1⟩, x⟩
  exact o j v d vs ds H2 Q _ q2 (s1.mono e2.toFra) s2 fun z w H3 p g3 s3 => k z j w H3 p ((e1.trans e2).trans (.grow g3)) s3
theorem LE.bm0 {T : String} {r : V → List V → Hp → VK → Prop} {g : GM} {ok : Dat → Bool} (o : MethD K T r g) (ty : TyD K T ok) {fo : GDE S} {σ : L2.St} {H : Hp} {Q : VK} (h : LE K TT E (dBM ok g fo dNil) σ H Q) : tBM0 K T r (LE K TT E fo) σ H Q := by
  obtain ⟨ρ, n, P, R, rl, f, k, x⟩ := h
  refine ⟨ρ, n, _, R, rl, f, fun d m v H1 q1 e1 s1 => ⟨ty m v d H1 s1 q1.1, ?_⟩, x⟩
  exact o m v d [] [] H1 Q _ q1.2 s1 .nil fun z w H3 p g3 s3 => k z m w H3 p (e1.trans (.grow g3)) s3
/-! ### subscripts, slices -/
theorem de_ix {r : R2} {g : G2} (hi : IxR X r) (o : OpD K r g) (ha : PE X a (LE K TT E fa)) (hb : PE X b (LE K TT E fb)) (hs : PlainIx b) : PE X (.Subscript a b pos) (LE K TT E (dOp g fa fb)) := (pe_ix hi ha hb hs).imp fun _ _ _ h => h.op o
abbrev GDO (S : Type) := List Sl → S → (Option Int → S → Prop) → GRX S → Prop
abbrev DO := GDO Nat
def LO (K : PySem.W.Frag) (TT : List (Addr × Str)) (E : XK) (f : GDO S) : TO := fun σ H Q => ∃ ρ n P R, Rel K ρ n σ H ∧ f ρ n P R ∧ (∀ i m H', P i m → Fre K TT n H m H' → Q i H') ∧ ExE K TT E n H R
def asI : Dat → (Int → Prop) → Prop
  | .int i, P => P i
  | _, _ => False
theorem asI_of {d : Dat} {P : Int → Prop} (h : asI d P) : ∃ b, d = .int b ∧ P b := by
  cases d with
  | int b => exact ⟨b, rfl, h⟩
  | _ => exact h.elim
def dNone : GDO S := fun _ n P _ => P none n
def dSome (f : GDE S) : GDO S := fun ρ n P R => f ρ n (fun d m => asI d fun i => P (some i) m) R
theorem do_none : PO X none (LO (S := S) K TT E dNone) := po_none.imp fun σ H Q ⟨ρ, n, P, R, rl, f, k, x⟩ => k none n H f .refl
theorem do_some (h : PE X a (LE K TT E fa)) : PO X (some a) (LO K TT E (dSome fa)) := (po_some h).imp fun σ H Q ⟨ρ, n, P, R, rl, f, k, x⟩ => ⟨ρ, n, _, R, rl, f, fun d m v H1 q1 e1 s1 => by
  obtain ⟨i, rfl, q⟩ := asI_of q1
  exact ⟨i, s1.int_iff, k (some i) m H1 q e1⟩, x⟩
abbrev GS := Dat → Option Int → Option Int → (Dat → Prop) → Prop
def SlD (K : PySem.W.Frag) (r : V → Option Int → Option Int → Hp → VK → Prop) (g : GS) : Prop := ∀ {U : Type} [Stt U] (n : U) (x : V) (d : Dat) (lo hi : Option Int) (H : Hp) (Q : VK) (P : Dat → Prop), g d lo hi P → Sees K n H x d → (∀ z v H', P z → Grow H H' → Sees K n H' v z → Q v H') → r x lo hi H Q
def dSl (g : GS) (f : GDE S) (l u : GDO S) : GDE S := fun ρ n P R => f ρ n (fun d m => l ρ m (fun lo k => u ρ k (fun hi j => g d lo hi fun z => P z j) R) R) R
theorem LE.sl {r : V → Option Int → Option Int → Hp → VK → Prop} {g : GS} (o : SlD K r g) {l u : GDO S} {σ : L2.St} {H : Hp} {Q : VK} (h : LE K TT E (dSl g fa l u) σ H Q) : tSl r (LE K TT E fa) (LO K TT E l) (LO K TT E u) σ H Q := by
  obtain ⟨ρ, n, P, R, rl, f, k, x⟩ := h
  refine ⟨ρ, n, _, R, rl, f, fun d m v H1 q1 e1 s1 => ⟨ρ, m, _, R, rl.fre e1, q1, fun lo j H2 q2 e2 => ⟨ρ, j, _, R, (rl.fre e1).fre e2, q2, fun hi i H3 q3 e3 => ?_, x.mono (e1.trans e2)⟩, x.mono e1⟩, x⟩
  exact o i v d lo hi H3 Q _ q3 (s1.mono (e2.trans e3).toFra) fun z w H4 p g4 s4 => k z i w H4 p (((e1.trans e2).trans e3).trans (.grow g4)) s4
end
end Aim

namespace Aim
open PySem PySem.Spec PyProof.Rows L2
open LamX (TabB Tabs CodeO)
open Stt (cnt sto)
variable {S : Type} [Stt S]
/-! ### statements by data -/
structure GDN (S : Type) where
  nx : List Sl → S → Prop
  rt : Dat → S → Prop
  bk : List Sl → S → Prop := fun _ _ => False
  ct : List Sl → S → Prop := fun _ _ => False
  ex : GRX S
abbrev GDS (S : Type) := GDN S → List Sl → S → Prop
abbrev DS := GDS Nat
abbrev DN := GDN Nat
structure Ok (K : PySem.W.Frag) (TT : List (Addr × Str)) (E : XK) (n : S) (H : Hp) (P : GDN S) (D : Ends) : Prop where
  nx : ∀ ρ m σ H', P.nx ρ m → Fra K TT n H m H' → Rel K ρ m σ H' → D.nx σ H'
  rt : ∀ d m v H', P.rt d m → Fra K TT n H m H' → Sees K m H' v d → D.rt v H'
  bk : ∀ ρ m σ H', P.bk ρ m → Fra K TT n H m H' → Rel K ρ m σ H' → D.bk σ H'
  ct : ∀ ρ m σ H', P.ct ρ m → Fra K TT n H m H' → Rel K ρ m σ H' → D.ct σ H'
  ex : ExOk K TT E n H P.ex
def LS (K : PySem.W.Frag) (TT : List (Addr × Str)) (E : XK) (g : GDS S) : TS := fun D σ H => ∃ ρ n P, Rel K ρ n σ H ∧ g P ρ n ∧ Ok K TT E n H P D
section
variable {K : PySem.W.Frag} {TT : List (Addr × Str)} {E : XK} {X : Cx}
theorem Ok.mono {n m : S} {H H1 : Hp} {P : GDN S} {D : Ends} (k : Ok K TT E n H P D) (f : Fra K TT n H m H1) : Ok K TT E m H1 P D :=
  ⟨fun ρ j σ H' p g r => k.nx ρ j σ H' p (f.trans g) r, fun d j v H' p g r => k.rt d j v H' p (f.trans g) r, fun ρ j σ H' p g r => k.bk ρ j σ H' p (f.trans g) r, fun ρ j σ H' p g r => k.ct ρ j σ H' p (f.trans g) r, k.ex.mono f⟩
variable {a b : Expr} {st : Stmt} {sts : List Stmt} {fa fb : GDE S} {ta tb : GDT S} {g g1 g2 : GDS S} {pos : Pos}
def dSeq (g1 g2 : GDS S) : GDS S := fun P ρ n => g1 { P with nx := g2 P } ρ n
def dEnd : GDS S := fun P ρ n => P.nx ρ n
theorem dss_nil : PSs X [] (LS (S := S) K TT E dEnd) := pss_nil.imp fun D σ H ⟨ρ, n, P, r, f, k⟩ => k.nx ρ n σ H f .refl r
theorem dss_cons (h1 : PS X st (LS K TT E g1)) (h2 : PSs X sts (LS K TT E g2)) : PSs X (st :: sts) (LS K TT E (dSeq g1 g2)) := (pss_cons h1 h2).imp fun D σ H ⟨ρ, n, P, r, f, k⟩ =>
  ⟨ρ, n, { P with nx := g2 P }, r, f, ⟨fun ρ' m σ' H' q e r' => ⟨ρ', m, P, r', q, k.mono e⟩, k.rt, k.bk, k.ct, k.ex⟩⟩
theorem dss_one (h1 : PS X st (LS K TT E g1)) : PSs X [st] (LS K TT E g1) := pss_one h1
def dRet (f : GDE S) : GDS S := fun P ρ n => f ρ n P.rt P.ex
def dRetN : GDS S := fun P _ n => P.rt .non n
def dIfS (t : GDT S) (g1 g2 : GDS S) : GDS S := fun P ρ n => t ρ n (fun c m => if c = true then g1 P ρ m else g2 P ρ m) P.ex
def dDrop (f : GDE S) : GDS S := fun P ρ n => f ρ n (fun _ m => P.nx ρ m) P.ex
theorem ds_ret (h : PE X a (LE K TT E fa)) : PS X (.Return (some a) pos) (LS K TT E (dRet fa)) := (ps_ret h).imp fun D σ H ⟨ρ, n, P, r, f, k⟩ => ⟨ρ, n, P.rt, P.ex, r, f, fun d m v H' q e s => k.rt d m v H' q e.toFra s, k.ex.toE⟩
theorem ds_retN : PS X (.Return none pos) (LS (S := S) K TT E dRetN) := ps_retN.imp fun D σ H ⟨ρ, n, P, r, f, k⟩ => k.rt .non n .non H f .refl .non
theorem ds_if {c : Expr} {x y : List Stmt} (hc : PT X c (LTs K TT E ta)) (h1 : PSs X x (LS K TT E g1)) (h2 : PSs X y (LS K TT E g2)) : PS X (.If c x y pos) (LS K TT E (dIfS ta g1 g2)) := (ps_if hc h1 h2).imp fun D σ H ⟨ρ, n, P, r, f, k⟩ =>
  ⟨ρ, n, _, P.ex, r, f, fun c m H' q e => by
    cases c with
    | true => exact ⟨ρ, m, P, r.fre e, q, k.mono e.toFra⟩
    | false => exact ⟨ρ, m, P, r.fre e, q, k.mono e.toFra⟩, k.ex.toE⟩
theorem ds_expr (h : PE X a (LE K TT E fa)) (hs : swapsWith a none pos.line X.env = pure false := by rfl) : PS X (.Expr a pos) (LS K TT E (dDrop fa)) := (ps_expr h hs).imp fun D σ H ⟨ρ, n, P, r, f, k⟩ => ⟨ρ, n, _, P.ex, r, f, fun d m v H' q e _ => k.nx ρ m σ H' q e.toFra (r.fre e), k.ex.toE⟩
theorem ds_pass : PS X (.Pass pos) (LS (S := S) K TT E dEnd) := ps_pass.imp fun D σ H ⟨ρ, n, P, r, f, k⟩ => k.nx ρ n σ H f .refl r
theorem ds_doc {x j p2} : PS X (.Expr (.Constant (.str x) j p2) pos) (LS (S := S) K TT E dEnd) := ps_doc.imp fun D σ H ⟨ρ, n, P, r, f, k⟩ => k.nx ρ n σ H f .refl r
def dBrk : GDS S := fun P ρ n => P.bk ρ n
def dCnt : GDS S := fun P ρ n => P.ct ρ n
theorem ds_break : PS X (.Break pos) (LS (S := S) K TT E dBrk) := ps_break.imp fun D σ H ⟨ρ, n, P, r, f, k⟩ => k.bk ρ n σ H f .refl r
theorem ds_continue : PS X (.Continue pos) (LS (S := S) K TT E dCnt) := ps_continue.imp fun D σ H ⟨ρ, n, P, r, f, k⟩ => k.ct ρ n σ H f .refl r
/-! ### targets -/
theorem wipe_get {j : Nat} (σ : L2.St) : ∀ l : List Nat, (wipe σ l)[j]? = if j ∈ l then σ[j]?.map (fun _ => none) else σ[j]?
  | [] => by simp [wipe]
  | i :: l => by
    show ((wipe σ l).set i none)[j]? = _
    rw [List.getElem?_set, wipe_get σ l, wipe_length]
    by_cases hij : i = j
    · subst hij
      by_cases hl : i < σ.length
      · simp [hl, List.getElem?_eq_getElem hl]
      · simp [hl, List.getElem?_eq_none (by omega : σ.length ≤ i)]
    · simp only [hij, if_false, List.mem_cons]
      have : j ≠ i := fun z => hij z.symm
      simp [this]
theorem wipe_set {σ : L2.St} {i : Nat} {o : Option V} {l : List Nat} (h : i ∈ l) : wipe (σ.set i o) l = wipe σ l := by
  apply List.ext_getElem?
  intro j
  rw [wipe_get, wipe_get, List.getElem?_set]
  by_cases hj : j ∈ l
  · simp only [hj, if_true]
    by_cases hij : i = j
    · subst hij
      by_cases hl : i < σ.length
      · simp [hl, List.getElem?_eq_getElem hl]
      · simp [hl, List.getElem?_eq_none (by omega : σ.length ≤ i)]
    · simp [hij]
  · simp only [hj, if_false]
    have : i ≠ j := fun z => hj (z ▸ h)
    simp [this]
abbrev DG := Dat → List Sl → (List Sl → Prop) → Prop
abbrev DGs := List Dat → List Sl → (List Sl → Prop) → Prop
def LG (K : PySem.W.Frag) (vs : List Nat) (g : DG) : TG := fun v σ H Q => ∃ ρ, ∃ n : S, ∃ d P, Rel K ρ n σ H ∧ Sees K n H v d ∧ g d ρ P ∧ ∀ ρ' σ', P ρ' → Rel K ρ' n σ' H → (∀ l, (∀ i ∈ vs, i ∈ l) → wipe σ' l = wipe σ l) → Q σ' H
def LGs (K : PySem.W.Frag) (vs : List Nat) (g : DGs) : TGs := fun us σ H Q => ∃ ρ, ∃ n : S, ∃ ds P, Rel K ρ n σ H ∧ SeesL K n H us ds ∧ g ds ρ P ∧ ∀ ρ' σ', P ρ' → Rel K ρ' n σ' H → (∀ l, (∀ i ∈ vs, i ∈ l) → wipe σ' l = wipe σ l) → Q σ' H
theorem _root_.L2.PG.imp {e : Expr} {t t' : TG} (h : PG X e t) (i : ∀ v σ H Q, t' v σ H Q → t v σ H Q) : PG X e t' := ⟨fun pins s σ H v u Q I r q => h.run pins s σ H v u Q I r (i _ _ _ _ q)⟩
theorem _root_.L2.PGs.imp {e : List Expr} {t t' : TGs} (h : PGs X e t) (i : ∀ v σ H Q, t' v σ H Q → t v σ H Q) : PGs X e t' := ⟨fun pins s σ H v u Q I r q => h.run pins s σ H v u Q I r (i _ _ _ _ q)⟩
def dgName (i : Nat) : DG := fun d ρ P => P (ρ.set i (.val d))
def dgNil : DGs := fun ds ρ P => match ds with
  | [] => P ρ
  | _ => False
def dgCons (t : DG) (u : DGs) : DGs := fun ds ρ P => match ds with
  | d :: r => t d ρ fun ρ' => u r ρ' P
  | [] => False
def dgTup (t : DGs) : DG := fun d ρ P => match d with
  | .tup ds => t ds ρ P
  | _ => False
theorem dg_name {i : Nat} {e : Expr} (h : PG X e (gName i)) : PG X e (LG (S := S) K [i] (dgName i)) := h.imp fun v σ H Q ⟨ρ, n, d, P, r, s, f, k⟩ => k _ _ f (r.put s) fun l hl => wipe_set (hl i (by simp))
theorem dgs_nil : PGs X [] (LGs (S := S) K [] dgNil) := pgs_nil.imp fun vs σ H Q ⟨ρ, n, ds, P, r, s, f, k⟩ => by
  cases s with
  | nil => exact ⟨rfl, k _ _ f r fun l _ => rfl⟩
  | cons _ _ => exact False.elim f
theorem dgs_cons {e : Expr} {es : List Expr} {vs ws : List Nat} {t : DG} {u : DGs} (h1 : PG X e (LG (S := S) K vs t)) (h2 : PGs X es (LGs (S := S) K ws u)) (hs : (assignEach (e :: es) X.env).map (·.2) = assign e X.env :: (assignEach es X.env).map (·.2) := by rfl) : PGs X (e :: es) (LGs (S := S) K (vs ++ ws) (dgCons t u)) := (pgs_cons h1 h2 hs).imp fun us σ H Q ⟨ρ, n, ds, P, r, s, f, k⟩ => by
  cases s with
  | nil => exact False.elim f
  | cons s1 s2 => exact ⟨_, _, rfl, ρ, n, _, _, r, s1, f, fun ρ1 σ1 f1 r1 w1 => ⟨ρ1, n, _, P, r1, s2, f1, fun ρ2 σ2 f2 r2 w2 => k ρ2 σ2 f2 r2 fun l hl => (w2 l fun i hi => hl i (List.mem_append_right _ hi)).trans (w1 l fun i hi => hl i (List.mem_append_left _ hi))⟩⟩
theorem dg_tup {es : List Expr} {k : Nat} {vs : List Nat} {t : DGs} {n : Nat} (hc : X.calm = true) (h : PGs X es (LGs (S := S) X.K vs t)) (hl : ∀ ds ρ P, t ds ρ P → ds.length = n) (hn : (assignEach es X.env).length = n := by rfl) (hst : (assignEach es X.env).findIdx? (·.1) = none := by rfl) : PG X (.Tuple es k pos) (LG (S := S) X.K vs (dgTup t)) := (pg_tup hc h hn hst).imp fun v σ H Q ⟨ρ, m, d, P, r, s, f, k⟩ => by
  cases s with
  | tup h1 l h2 => exact ⟨_, _, rfl, h1.sqT, by rw [h2.length]; exact hl _ _ _ f, ρ, m, _, P, r, h2, f, k⟩
  | _ => exact False.elim f
theorem dgl_nil {ds : List Dat} {ρ : List Sl} {P : List Sl → Prop} (h : dgNil ds ρ P) : ds.length = 0 := by
  cases ds with
  | nil => rfl
  | cons _ _ => exact False.elim h
def dAsg (f : GDE S) (g : DG) : GDS S := fun P ρ n => f ρ n (fun d m => g d ρ fun ρ' => P.nx ρ' m) P.ex
theorem LS.asg {vs : List Nat} {g : DG} {D : Ends} {σ : L2.St} {H : Hp} (h : LS K TT E (dAsg fa g) D σ H) : tAsg (LE K TT E fa) (LG (S := S) K vs g) D σ H := by
  obtain ⟨ρ, n, P, r, f, k⟩ := h
  exact ⟨ρ, n, _, P.ex, r, f, fun d m v H1 q e s => ⟨ρ, m, d, _, r.fre e, s, q, fun ρ' σ' q' r' _ => k.nx ρ' m σ' H1 q' e.toFra r'⟩, k.ex.toE⟩
theorem ds_asg {tg : Expr} {vs : List Nat} {g : DG} (he : PE X a (LE K TT E fa)) (hg : PG X tg (LG (S := S) K vs g)) (hs : swapsWithSole [tg] a pos.line X.env = pure false := by rfl) (hw : swappedStores [tg] a X.env = pure none := by rfl)
    (h1 : (assignEach [tg] X.env).map (·.2) = [assign tg X.env] := by rfl) : PS X (.Assign [tg] a pos) (LS K TT E (dAsg fa g)) := (ps_asg he hg hs hw h1).imp fun _ _ _ h => h.asg
theorem ds_set {i : Nat} {x : Str} {p2 : Pos} (hN : X.N.Nodup) (hi : X.N[i]? = some x) (hx : Loc X.env.scope x) (he : PE X a (LE K TT E fa)) (hf : X.fn x = true ∨ X.env.scope.names.lookup x = some .local := by first | exact .inl rfl | exact .inr rfl | assumption) (hs : swapsWithSole [.Name x p2] a pos.line X.env = pure false := by rfl) (hw : swappedStores [.Name x p2] a X.env = pure none := by rfl)
    (h1 : (assignEach [.Name x p2] X.env).map (·.2) = [assign (.Name x p2) X.env] := by rfl) : PS X (.Assign [.Name x p2] a pos) (LS K TT E (dAsg fa (dgName i))) := ds_asg he (dg_name (pg_name hN hi hx hf)) hs hw h1
/-- two names at once -/
def dPar (i j : Nat) (f : GDA S) : GDS S := fun P ρ n => f ρ n (fun ds m => match ds with
  | [d, e] => P.nx ((ρ.set i (.val d)).set j (.val e)) m
  | _ => False) P.ex
theorem ds_par {i j : Nat} {fr : GDA S} (h : PS X st (tPar i j (LA K TT E fr))) : PS X st (LS K TT E (dPar i j fr)) := h.imp fun D σ H ⟨ρ, n, P, r, f, k⟩ => ⟨ρ, n, _, P.ex, r, f, fun ds m vs H1 q e s => by
  cases s with
  | nil => exact False.elim q
  | cons s1 s =>
    cases s with
    | nil => exact False.elim q
    | cons s2 s =>
      cases s with
      | nil => exact ⟨_, _, rfl, k.nx _ m _ H1 q e.toFra (((r.fre e).put s1).put s2)⟩
      | cons _ _ => exact False.elim q, k.ex.toE⟩
/-! ### what is walked -/
/-- from H on, through all that the loop's turns do, the walked thing gives these items -/
structure Items (K : PySem.W.Frag) (TT : List (Addr × Str)) (J : It) (m : S) (H : Hp) (ds : List Dat) : Prop where
  len : ds.length ≤ sizeLine
  goes : ∀ i n' H', i < ds.length → Fra K TT m H n' H' → J.go i H'
  stops : ∀ n' H', Fra K TT m H n' H' → J.stop ds.length H'
  yields : ∀ (i : Nat) (n' : S) (H' : Hp) (x : V) (H2 : Hp) (d : Dat), ds[i]? = some d → Fra K TT m H n' H' → J.yld i H' x H2 → Grow H' H2 ∧ ∀ G, Fra K TT m H n' G → (∀ b o, H2 b = some o → H' b = none → G b = some o) → Sees K n' G x d
abbrev GDI (S : Type) := List Sl → S → (List Dat → S → Prop) → GRX S → Prop
abbrev DI := GDI Nat
def LI (K : PySem.W.Frag) (TT : List (Addr × Str)) (E : XK) (f : GDI S) : TI := fun σ H R => ∃ ρ n P Rx, Rel K ρ n σ H ∧ f ρ n P Rx ∧ (∀ ds m J H1, P ds m → Fre K TT n H m H1 → Items K TT J m H1 ds → R J H1) ∧ ExE K TT E n H Rx
theorem _root_.L2.PI.imp {tg e : Expr} {t t' : TI} (h : PI X tg e t) (i : ∀ σ H Q, t' σ H Q → t σ H Q) : PI X tg e t' := ⟨fun pins s σ H Q I q => h.run pins s σ H Q I (i _ _ _ q)⟩
/-- the items of a list or a tuple -/
def lstOf : Dat → (List Dat → Prop) → Prop
  | .lst ds, P => P ds
  | _, _ => False
def tupOf : Dat → (List Dat → Prop) → Prop
  | .tup ds, P => P ds
  | _, _ => False
theorem lstOf_of {d : Dat} {P : List Dat → Prop} (h : lstOf d P) : ∃ b, d = .lst b ∧ P b := by
  cases d with
  | lst b => exact ⟨b, rfl, h⟩
  | _ => exact h.elim
theorem tupOf_of {d : Dat} {P : List Dat → Prop} (h : tupOf d P) : ∃ b, d = .tup b ∧ P b := by
  cases d with
  | tup b => exact ⟨b, rfl, h⟩
  | _ => exact h.elim
def diList (f : GDE S) : GDI S := fun ρ n P R => f ρ n (fun d m => lstOf d fun ds => P ds m) R
def diTup (f : GDE S) : GDI S := fun ρ n P R => f ρ n (fun d m => tupOf d fun ds => P ds m) R
theorem di_list {tg : Expr} (h : PE X a (LE X.K TT E fa)) : PI X tg a (LI X.K TT E (diList fa)) := (pi_list h).imp fun σ H R ⟨ρ, n, P, Rx, r, f, k, x⟩ => ⟨ρ, n, _, Rx, r, f, fun d m v H1 q e s => by
  obtain ⟨ds, rfl, q⟩ := lstOf_of q
  obtain ⟨l, xs, rfl, h1, h2, h3⟩ := s.lst_iff
  refine ⟨l, rfl, ⟨_, h1⟩, k ds m _ H1 q e ⟨by rw [← h3.length]; exact h2, fun i n' H' hi g => ?_, fun n' H' g => ⟨_, g.sqL h1, by rw [h3.length]; exact Nat.le_refl _⟩, fun i n' H' y H2 d hd g z => ?_⟩⟩
  · rw [← h3.length] at hi
    exact ⟨_, xs[i], g.sqL h1, by simp [hi]⟩
  · obtain ⟨e1, e2⟩ := z
    have e2 := e2 xs (g.sqL h1)
    rw [e1]
    obtain ⟨d', e3, s3⟩ := h3.get e2
    rw [hd] at e3
    cases e3
    exact ⟨.refl _, fun G gG _ => s3.mono gG⟩, x⟩
theorem di_tup {tg : Expr} (h : PE X a (LE X.K TT E fa)) : PI X tg a (LI X.K TT E (diTup fa)) := (pi_tup h).imp fun σ H R ⟨ρ, n, P, Rx, r, f, k, x⟩ => ⟨ρ, n, _, Rx, r, f, fun d m v H1 q e s => by
  obtain ⟨ds, rfl, q⟩ := tupOf_of q
  obtain ⟨l, xs, rfl, h1, h2, h3⟩ := s.tup_iff
  refine ⟨l, rfl, ⟨_, h1⟩, k ds m _ H1 q e ⟨by rw [← h3.length]; exact h2, fun i n' H' hi g => ?_, fun n' H' g => ⟨_, g.sqT h1, by rw [h3.length]; exact Nat.le_refl _⟩, fun i n' H' y H2 d hd g z => ?_⟩⟩
  · rw [← h3.length] at hi
    exact ⟨_, xs[i], g.sqT h1, by simp [hi]⟩
  · obtain ⟨e1, e2⟩ := z
    have e2 := e2 xs (g.sqT h1)
    rw [e1]
    obtain ⟨d', e3, s3⟩ := h3.get e2
    rw [hd] at e3
    cases e3
    exact ⟨.refl _, fun G gG _ => s3.mono gG⟩, x⟩
/-- numbers in a row -/
def numL (lo : Int) : Nat → List Dat
  | 0 => []
  | k + 1 => .int lo :: numL (lo + 1) k
theorem numL_len : ∀ (lo : Int) (k : Nat), (numL lo k).length = k
  | _, 0 => rfl
  | lo, k + 1 => congrArg (· + 1) (numL_len (lo + 1) k)
theorem numL_get : ∀ (lo : Int) (k i : Nat), i < k → (numL lo k)[i]? = some (.int (lo + i))
  | lo, 0, i, h => absurd h (Nat.not_lt_zero _)
  | lo, k + 1, 0, h => by simp [numL]
  | lo, k + 1, i + 1, h => by
    show (numL (lo + 1) k)[i]? = _
    rw [numL_get (lo + 1) k i (by omega)]
    congr 2
    push_cast
    omega
theorem items_range {lo : Int} {k : Nat} {m : S} {H : Hp} (l : k ≤ sizeLine) : Items K TT (Itr lo k) m H (numL lo k) := by
  refine ⟨by rw [numL_len]; exact l, fun i n' H' hi g => by rw [numL_len] at hi; exact hi, fun n' H' g => by rw [numL_len]; exact Nat.le_refl _, fun i n' H' x H2 d hd g y => ?_⟩
  obtain ⟨e1, e2⟩ := y
  have hi : i < k := by
    obtain ⟨h, _⟩ := List.getElem?_eq_some_iff.mp hd
    rw [numL_len] at h
    exact h
  rw [numL_get _ _ _ hi] at hd
  cases hd
  rw [e1, e2]
  exact ⟨.refl _, fun _ _ _ => .int _⟩
def rg1 : List Dat → (List Dat → Prop) → Prop
  | [.int j], P => (-(2 ^ 62) ≤ j ∧ j ≤ 1000000) ∧ P (numL 0 j.toNat)
  | _, _ => False
def rg2 : List Dat → (List Dat → Prop) → Prop
  | [.int i, .int j], P => (-1000000 ≤ i ∧ i ≤ 1000000 ∧ -1000000 ≤ j ∧ j ≤ 1000000) ∧ P (numL i (j - i).toNat)
  | _, _ => False
def diRng1 (f : GDA S) : GDI S := fun ρ n P R => f ρ n (fun ds m => rg1 ds fun xs => P xs m) R
def diRng2 (f : GDA S) : GDI S := fun ρ n P R => f ρ n (fun ds m => rg2 ds fun xs => P xs m) R
theorem rng1_of {ds : List Dat} {n : S} {H : Hp} {vs : List V} {P : List Dat → Prop} (s : SeesL K n H vs ds) (h : rg1 ds P) : ∃ j : Int, vs = [.int j] ∧ -(2 ^ 62) ≤ j ∧ j < 2 ^ 62 ∧ P (numL 0 j.toNat) ∧ j.toNat ≤ sizeLine := by
  unfold rg1 at h
  split at h
  · rename_i j
    cases s with
    | cons s1 s2 =>
      cases s2
      have l : j.toNat ≤ 1000000 := by have := h.1.2; omega
      exact ⟨j, by rw [s1.int_iff], h.1.1, by omega, h.2, Nat.le_trans l (by decide)⟩
  · exact h.elim
theorem rng2_of {ds : List Dat} {n : S} {H : Hp} {vs : List V} {P : List Dat → Prop} (s : SeesL K n H vs ds) (h : rg2 ds P) : ∃ i j : Int, vs = [.int i, .int j] ∧ (-1000000 ≤ i ∧ i ≤ 1000000 ∧ -1000000 ≤ j ∧ j ≤ 1000000) ∧ P (numL i (j - i).toNat) ∧ (j - i).toNat ≤ sizeLine := by
  unfold rg2 at h
  split at h
  · rename_i i j
    cases s with
    | cons s1 s2 =>
      cases s2 with
      | cons s2 s3 =>
        cases s3
        have l : (j - i).toNat ≤ 2000000 := by have := h.1; omega
        exact ⟨i, j, by rw [s1.int_iff, s2.int_iff], h.1, h.2, Nat.le_trans l (by decide)⟩
  · exact h.elim
theorem di_rng1 {tg e : Expr} {fr : GDA S} (h : PI X tg e (iRng1 (LA K TT E fr))) : PI X tg e (LI K TT E (diRng1 fr)) := h.imp fun σ H R ⟨ρ, n, P, Rx, r, f, k, x⟩ => ⟨ρ, n, _, Rx, r, f, fun ds m vs H1 q e s => by
  obtain ⟨j, rfl, j0, j1, q, l⟩ := rng1_of s q
  exact ⟨j, rfl, j0, j1, k _ m _ H1 q e (items_range l)⟩, x⟩
theorem di_rng2 {tg e : Expr} {fr : GDA S} (h : PI X tg e (iRng2 (LA K TT E fr))) : PI X tg e (LI K TT E (diRng2 fr)) := h.imp fun σ H R ⟨ρ, n, P, Rx, r, f, k, x⟩ => ⟨ρ, n, _, Rx, r, f, fun ds m vs H1 q e s => by
  obtain ⟨i, j, rfl, h1, q, l⟩ := rng2_of s q
  exact ⟨i, j, rfl, by omega, k _ m _ H1 q e (items_range l)⟩, x⟩
/-- pairs -/
def pairs (xs ys : List Dat) : List Dat := List.zipWith (fun x y => .tup [x, y]) xs ys
theorem pair_sees {n : S} {H' H2 G : Hp} {v x y : V} {T : Addr} {o : Obj} {d e : Dat} (n0 : H' T = none) (e1 : v = .ref T) (ho : o.dict = none) (e2 : H2 = upd H' T (.frz o (.tup [x, y]))) (q : ∀ b o, H2 b = some o → H' b = none → G b = some o) (s1 : Sees K n G x d) (s2 : Sees K n G y e) : Sees K n G v (.tup [d, e]) := by
  subst e1
  subst e2
  exact .tupOf (q T _ upd_same n0) ho (by show 2 ≤ sizeLine; decide) (.cons s1 (.cons s2 .nil))
theorem pairs_len {xs ys : List Dat} : (pairs xs ys).length = min xs.length ys.length := by simp [pairs]
theorem pairs_get {xs ys : List Dat} {i : Nat} {d : Dat} (h : (pairs xs ys)[i]? = some d) : ∃ x y, xs[i]? = some x ∧ ys[i]? = some y ∧ d = .tup [x, y] := by
  unfold pairs at h
  rw [List.getElem?_zipWith] at h
  split at h
  · rename_i x y h1 h2
    cases h
    exact ⟨x, y, h1, h2, rfl⟩
  · cases h
def zp : List Dat → (List Dat → Prop) → Prop
  | [.lst xs, .lst ys], P => P (pairs xs ys)
  | [.tup xs, .tup ys], P => xs.length = ys.length ∧ P (pairs xs ys)
  | _, _ => False
def en : List Dat → (List Dat → Prop) → Prop
  | [.lst xs], P => P (pairs (numL 0 xs.length) xs)
  | _, _ => False
def diZip (f : GDA S) : GDI S := fun ρ n P R => f ρ n (fun ds m => zp ds fun xs => P xs m) R
def diEnum (f : GDA S) : GDI S := fun ρ n P R => f ρ n (fun ds m => en ds fun xs => P xs m) R
theorem items_zipL {p q : Addr} {xs ys : List V} {ds es : List Dat} {m : S} {H : Hp} (h1 : SqL K H p xs) (h2 : SqL K H q ys) (s1 : SeesL K m H xs ds) (s2 : SeesL K m H ys es) (l : xs.length ≤ sizeLine) : Items K TT (ItzN K p q) m H (pairs ds es) := by
  have w := walk_zipN (K := K) (a := p) (b := q) (xs := xs) (ys := ys) (n := (pairs ds es).length) (by rw [pairs_len, s1.length, s2.length])
  refine ⟨?_, fun i n' H' hi g => w.goes i H' hi ⟨g.sqL h1, g.sqL h2⟩, fun n' H' g => w.stops H' ⟨g.sqL h1, g.sqL h2⟩, fun i n' H' x H2 d hd g y => ?_⟩
  · rw [pairs_len, ← s1.length]
    exact Nat.le_trans (Nat.min_le_left _ _) l
  · obtain ⟨hi, _⟩ := List.getElem?_eq_some_iff.mp hd
    obtain ⟨T, o, a, b, e1, e2, e6, e3, e4, e5⟩ := w.yields i H' x H2 hi ⟨g.sqL h1, g.sqL h2⟩ y
    obtain ⟨d1, d2, f1, f2, rfl⟩ := pairs_get hd
    obtain ⟨d1', g1, t1⟩ := s1.get e4
    obtain ⟨d2', g2, t2⟩ := s2.get e5
    rw [f1] at g1
    rw [f2] at g2
    cases g1
    cases g2
    exact ⟨by rw [e3]; exact .new e2, fun G gG q => pair_sees e2 e1 e6 e3 q (t1.mono gG) (t2.mono gG)⟩
theorem items_zipT {p q : Addr} {xs ys : List V} {ds es : List Dat} {m : S} {H : Hp} (h1 : SqT K H p xs) (h2 : SqT K H q ys) (s1 : SeesL K m H xs ds) (s2 : SeesL K m H ys es) (l : xs.length ≤ sizeLine) (e : ds.length = es.length) : Items K TT (ItzTN K p q) m H (pairs ds es) := by
  have w := walk_zipTN (K := K) (a := p) (b := q) (xs := xs) (ys := ys) (n := (pairs ds es).length) (by rw [pairs_len, s1.length]; omega) (by rw [pairs_len, s2.length]; omega)
  refine ⟨?_, fun i n' H' hi g => w.goes i H' hi ⟨g.sqT h1, g.sqT h2⟩, fun n' H' g => w.stops H' ⟨g.sqT h1, g.sqT h2⟩, fun i n' H' x H2 d hd g y => ?_⟩
  · rw [pairs_len, ← s1.length]
    exact Nat.le_trans (Nat.min_le_left _ _) l
  · obtain ⟨hi, _⟩ := List.getElem?_eq_some_iff.mp hd
    obtain ⟨T, o, a, b, e1, e2, e6, e3, e4, e5⟩ := w.yields i H' x H2 hi ⟨g.sqT h1, g.sqT h2⟩ y
    obtain ⟨d1, d2, f1, f2, rfl⟩ := pairs_get hd
    obtain ⟨d1', g1, t1⟩ := s1.get e4
    obtain ⟨d2', g2, t2⟩ := s2.get e5
    rw [f1] at g1
    rw [f2] at g2
    cases g1
    cases g2
    exact ⟨by rw [e3]; exact .new e2, fun G gG q => pair_sees e2 e1 e6 e3 q (t1.mono gG) (t2.mono gG)⟩
theorem di_zip {tg e : Expr} {fr : GDA S} (h : PI X tg e (iZipN X.K (LA X.K TT E fr))) : PI X tg e (LI X.K TT E (diZip fr)) := h.imp fun σ H R ⟨ρ, n, P, Rx, r, f, k, x⟩ => ⟨ρ, n, _, Rx, r, f, fun ds m vs H1 q e s => by
  unfold zp at q
  split at q
  · cases s with
    | cons s1 s =>
      cases s with
      | cons s2 s =>
        cases s
        obtain ⟨p1, xs, rfl, a1, a2, a3⟩ := s1.lst_iff
        obtain ⟨p2, ys, rfl, b1, b2, b3⟩ := s2.lst_iff
        exact ⟨p1, p2, xs, ys, rfl, .inl ⟨a1, b1, k _ m _ H1 q e (items_zipL a1 b1 a3 b3 a2)⟩⟩
  · cases s with
    | cons s1 s =>
      cases s with
      | cons s2 s =>
        cases s
        obtain ⟨p1, xs, rfl, a1, a2, a3⟩ := s1.tup_iff
        obtain ⟨p2, ys, rfl, b1, b2, b3⟩ := s2.tup_iff
        exact ⟨p1, p2, xs, ys, rfl, .inr ⟨a1, b1, k _ m _ H1 q.2 e (items_zipT a1 b1 a3 b3 a2 q.1)⟩⟩
  · exact q.elim, x⟩
/-! ### for -/
def loop (tg : DG) (body : GDS S) (P : GDN S) : List Dat → List Sl → S → Prop
  | [], ρ, n => P.nx ρ n
  | d :: ds, ρ, n => tg d ρ fun ρ' => body { P with nx := loop tg body P ds, ct := loop tg body P ds, bk := P.nx } ρ' n
def dFor (fi : GDI S) (tg : DG) (body : GDS S) : GDS S := fun P ρ n => fi ρ n (fun ds m => loop tg body P ds ρ m) P.ex
theorem LS.for {fi : GDI S} {vs : List Nat} {tg : DG} {body : GDS S} {D : Ends} {σ : L2.St} {H : Hp} (h : LS K TT E (dFor fi tg body) D σ H) : tFor (LI K TT E fi) (LG (S := S) K vs tg) (LS K TT E body) D σ H := by
  obtain ⟨ρ, n, P, r, f, k⟩ := h
  refine ⟨ρ, n, _, P.ex, r, f, fun ds m J H1 q e it => ?_, k.ex.toE⟩
  have k1 := k.mono e.toFra
  refine ⟨fun i j σ' H' => j = ds.length - i ∧ i ≤ ds.length ∧ ∃ ρ' m', Rel K ρ' m' σ' H' ∧ Fra K TT m H1 m' H' ∧ loop tg body P (ds.drop i) ρ' m', ⟨ds.length, by simp, Nat.zero_le _, ρ, m, r.fre e, .refl, q⟩, ?_⟩
  rintro i j σ' H' ⟨rfl, hi, ρ', m', r', g, l⟩
  by_cases hlt : i < ds.length
  · rw [List.drop_eq_getElem_cons hlt] at l
    refine .inr ⟨it.goes i _ _ hlt g, fun σ2 H2 => ∃ ρ2 m2, Rel K ρ2 m2 σ2 H2 ∧ Fra K TT m H1 m2 H2 ∧ loop tg body P (ds.drop (i + 1)) ρ2 m2, fun σ2 H2 z => ⟨ds.length - (i + 1), by omega, rfl, hlt, z⟩, fun x H2 y => ?_⟩
    obtain ⟨gr, sx⟩ := it.yields i m' H' x H2 _ (List.getElem?_eq_getElem hlt) g y
    have g2 := g.trans (.grow gr)
    refine ⟨ρ', m', _, _, r'.grow gr, sx H2 g2 (fun _ _ e _ => e), l, fun ρ3 σ3 b3 r3 _ => ⟨ρ3, m', _, r3, b3, ?_⟩⟩
    exact ⟨fun ρ4 m4 σ4 H4 q4 g4 r4 => ⟨ρ4, m4, r4, g2.trans g4, q4⟩, fun d m4 v H4 q4 g4 s4 => k1.rt d m4 v H4 q4 (g2.trans g4) s4, fun ρ4 m4 σ4 H4 q4 g4 r4 => k1.nx ρ4 m4 σ4 H4 q4 (g2.trans g4) r4, fun ρ4 m4 σ4 H4 q4 g4 r4 => ⟨ρ4, m4, r4, g2.trans g4, q4⟩, k1.ex.mono g2⟩
  · have e : i = ds.length := by omega
    subst e
    rw [List.drop_length] at l
    exact .inl ⟨it.stops _ _ g, k1.nx ρ' m' σ' H' l g r'⟩
theorem ds_for {iter tg : Expr} {body : List Stmt} {fi : GDI S} {vs : List Nat} {g : DG} {gb : GDS S} (hp : PassesOwn (model X.prog X.w) X.A X.env X.xe) (hc : X.calm = true) (hi : PI X tg iter (LI K TT E fi)) (hg : PG X tg (LG (S := S) K vs g)) (hb : PSs X body (LS K TT E gb))
    (hs : ∀ x, foldedSetIterable iter X.env x = pure x := by intro _; rfl) : PS X (.For tg iter body [] pos) (LS K TT E (dFor fi g gb)) := (ps_for hp hc hi hg hb hs).imp fun _ _ _ h => h.for
end
end Aim

namespace Aim
open PySem PySem.Spec PyProof.Rows L2
open LamX (TabB Tabs CodeO)
open Stt (cnt sto)
variable {S : Type} [Stt S]
section
variable {K : PySem.W.Frag} {TT : List (Addr × Str)} {E : XK} {X : Cx} {n m : S} {H H' : Hp} {ρ : List Sl} {σ : L2.St}
/-! ### a new list: held alone at first, then data -/
theorem own_perm {a b : Addr} {xs : List V} {o : HO} (l : xs.length ≤ sizeLine) (h : H a = some (OwnO xs a)) (e : H b = some o) (p : Perm b o) : b ≠ a := fun z => by
  subst z
  rw [h] at e
  exact p.2.1 xs (Option.some.inj e).symm
/-- an own list is told as a list -/
theorem Fra.melt {a : Addr} {xs ys : List V} (l : xs.length ≤ sizeLine) (h : H a = some (OwnO xs a)) (hs : sto n a = none) : Fra K TT n H n (upd H a (.lst ys)) := .wr h hs
theorem upd_back {a : Addr} {o u : HO} (h : H a = some o) : upd (upd H a u) a o = H := by rw [upd_upd, upd_self h]
/-- the reading of an expression that makes a new list: the list stands at p, nothing else knows of it -/
def LF (K : PySem.W.Frag) (TT : List (Addr × Str)) (E : XK) (f : GDA S) : TE := fun σ H Q => ∃ ρ n P R, Rel K ρ n σ H ∧ f ρ n P R ∧
  (∀ ds m xs p H', P ds m → (∀ {sh : Shp} (ys : List V), H p = some (OwnS sh ys p) → sto n p ≠ none) → H' p = some (.lst xs) → xs.length ≤ sizeLine → sto m p = none → Fre K TT n H m (upd H' p (OwnO xs p)) → SeesL K m (upd H' p (OwnO xs p)) xs ds → Q (.ref p) H') ∧ ExE K TT E n H R
def dFr (f : GDA S) : GDE S := fun ρ n P R => f ρ n (fun ds m => P (.lst ds) m) R
theorem Fre.new_list {p : Addr} {xs : List V} (h0 : ∀ {sh : Shp} (ys : List V), H p = some (OwnS sh ys p) → sto n p ≠ none) (h1 : H' p = some (.lst xs)) (l : xs.length ≤ sizeLine) (hs : sto m p = none) (e : Fre K TT n H m (upd H' p (OwnO xs p))) : Fre K TT n H m H' := by
  have b : upd (upd H' p (OwnO xs p)) p (.lst xs) = H' := upd_back h1
  refine ⟨?_, fun c ys q sq => ?_⟩
  · have z := e.toFra.trans (Fra.melt (ys := xs) l (show upd H' p (OwnO xs p) p = some (OwnO xs p) from upd_same) hs)
    rw [b] at z
    exact z
  · have z := e.own c ys q sq
    rw [upd_ne fun w => h0 ys (by rw [← w]; exact q) (by rw [← w]; exact sq)] at z
    exact z
theorem sees_new {p : Addr} {xs : List V} {ds : List Dat} (h1 : H' p = some (.lst xs)) (l : xs.length ≤ sizeLine) (hs : sto m p = none) (s : SeesL K m (upd H' p (OwnO xs p)) xs ds) : Sees K m H' (.ref p) (.lst ds) := by
  have b : upd (upd H' p (OwnO xs p)) p (.lst xs) = H' := upd_back h1
  have z := s.mono (TT := []) (Fra.melt (ys := xs) l (show upd H' p (OwnO xs p) p = some (OwnO xs p) from upd_same) hs)
  rw [b] at z
  exact .lstOf h1 l z
theorem LE.fr {f : GDA S} {σ : L2.St} {H : Hp} {Q : VK} (h : LE K TT E (dFr f) σ H Q) : LF K TT E f σ H Q := by
  obtain ⟨ρ, n, P, R, r, g, k, x⟩ := h
  exact ⟨ρ, n, _, R, r, g, fun ds m xs p H' q h0 h1 l hs e s => k _ m _ H' q (e.new_list h0 h1 l hs) (sees_new h1 l hs s), x⟩
theorem de_fr {e : Expr} {f : GDA S} (h : PE X e (LF K TT E f)) : PE X e (LE K TT E (dFr f)) := h.imp fun _ _ _ q => q.fr
/-- a new list, as the rules tell it: at p, with its items seen before -/
theorem lf_grow {P : List Dat → S → Prop} {Q : VK} {p : Addr} {xs : List V} {ds : List Dat} {H1 : Hp} (k : ∀ ds m xs p H', P ds m → (∀ {sh : Shp} (ys : List V), H p = some (OwnS sh ys p) → sto n p ≠ none) → H' p = some (.lst xs) → xs.length ≤ sizeLine → sto m p = none → Fre K TT n H m (upd H' p (OwnO xs p)) → SeesL K m (upd H' p (OwnO xs p)) xs ds → Q (.ref p) H')
    (q : P ds m) (e : Fre K TT n H m H1) (t : StoOk K n H) (hp : H1 p = none) (l : xs.length ≤ sizeLine) (s : SeesL K m H1 xs ds) : Q (.ref p) (upd H1 p (.lst xs)) := by
  have g : Grow H1 (upd H1 p (OwnO xs p)) := .new hp
  have b : upd (upd H1 p (.lst xs)) p (OwnO xs p) = upd H1 p (OwnO xs p) := upd_upd
  refine k ds m xs p _ q (fun ys w ws => by rw [(e.own p ys w ws).1] at hp; cases hp) upd_same l ((e.st t).free hp) ?_ ?_
  · rw [b]
    exact e.trans (.grow g)
  · rw [b]
    exact s.grow g
end
/-! ### the new list of a comprehension, hidden from what runs in it -/
section
variable {K : PySem.W.Frag} {TT : List (Addr × Str)} {E : XK} {X : Cx} {e : Expr}
theorem to_own {pins : List (Addr × Obj)} {σ : L2.St} {H : Hp} {s : Shared} {D : Addr} {xs : List V} (I : Inv X pins σ H s) (h : H D = some (.lst xs)) : Inv X pins σ (upd H D (OwnO xs D)) s := by
  obtain ⟨l, its, k, rv, hg⟩ := (show ObjOk X.prog X.w H s.heap D (.lst xs) from I.hok D _ h)
  exact retell I (by rw [h]; exact True.intro) ⟨_, hg⟩ (OwnO.ok l rv hg)
theorem of_own {pins : List (Addr × Obj)} {σ : L2.St} {H : Hp} {s : Shared} {D : Addr} {xs : List V} (I : Inv X pins σ H s) (h : H D = some (OwnO xs D)) : Inv X pins σ (upd H D (.lst xs)) s := by
  obtain ⟨l, its, k, rv, hg⟩ := OwnO.at I.hok h
  exact retell I (by rw [h]; exact True.intro) ⟨_, hg⟩ ⟨l, its, k, rv, hg⟩
def tHide (t : TE) : TE := fun σ H Q => ∃ D xs, H D = some (.lst xs) ∧ t σ (upd H D (OwnO xs D)) fun v H' => H' D = some (OwnO xs D) ∧ Q v (upd H' D (.lst xs))
def tHideT (t : L2.TT) : L2.TT := fun σ H Q => ∃ D xs, H D = some (.lst xs) ∧ t σ (upd H D (OwnO xs D)) fun v H' => H' D = some (OwnO xs D) ∧ Q v (upd H' D (.lst xs))
def gHide (t : TG) : TG := fun v σ H Q => ∃ D xs, H D = some (.lst xs) ∧ t v σ (upd H D (OwnO xs D)) fun σ' H' => H' D = some (OwnO xs D) ∧ Q σ' (upd H' D (.lst xs))
theorem pe_hide {t : TE} (h : PE X e t) : PE X e (tHide t) := ⟨fun pins s σ H Q I ⟨D, xs, hD, q⟩ => thn (h.run pins s σ _ _ (to_own I hD) q) fun u s' ⟨v, H', J, r, e1, q'⟩ => ⟨v, _, of_own J e1, r, q'⟩⟩
theorem pts_hide {es : List Expr} {t : L2.TT} (h : PTs X es t) : PTs X es (tHideT t) := ⟨fun pins s σ H Q I ⟨D, xs, hD, q⟩ => thn (h.run pins s σ _ _ (to_own I hD) q) fun b s' ⟨H', J, e1, q'⟩ => ⟨_, of_own J e1, q'⟩⟩
theorem pg_hide {t : TG} (h : PG X e t) : PG X e (gHide t) := ⟨fun pins s σ H v u Q I r ⟨D, xs, hD, q⟩ => thn (h.run pins s σ _ v u _ (to_own I hD) r q) fun _ s' ⟨σ', H', J, e1, q'⟩ => ⟨σ', _, of_own J e1, q'⟩⟩
theorem dts_nil : PTs X [] (LTs (S := S) K TT E fun _ n P _ => P true n) := ⟨fun pins s σ H Q I h => pts_nil.run pins s σ H Q I (by obtain ⟨ρ, n, P, R, r, f, k, x⟩ := h; exact k true n H f .refl)⟩
theorem dts_one {c : Expr} {t : GDT S} (h : PT X c (LTs K TT E t)) : PTs X [c] (LTs K TT E t) := pts_one h
theorem wipe_wipe (σ : L2.St) (l : List Nat) : wipe (wipe σ l) l = wipe σ l := by
  apply List.ext_getElem?
  intro j
  rw [wipe_get, wipe_get]
  by_cases hj : j ∈ l
  · simp only [hj, if_true]
    cases σ[j]? <;> rfl
  · simp only [hj, if_false]
/-- the slots within a comprehension -/
def wiped (ρ : List Sl) : List Nat → List Sl
  | [] => ρ
  | i :: l => (wiped ρ l).set i .no
theorem Rel.wipe {ρ : List Sl} {n : S} {σ : L2.St} {H : Hp} (r : Rel K ρ n σ H) : ∀ l, Rel K (wiped ρ l) n (wipe σ l) H
  | [] => r
  | _ :: l => (Rel.wipe r l).drop
def comp (l : List Nat) (tg : DG) (tt : GDT S) (fe : GDE S) (ρ : List Sl) (P : List Dat → S → Prop) : List Dat → List Dat → S → Prop
  | [], acc, m => P acc m
  | d :: ds, acc, m => tg d (wiped ρ l) fun ρ' => tt ρ' m (fun b k => if b = true then fe ρ' k (fun y j => comp l tg tt fe ρ P ds (acc ++ [y]) j) R0 else comp l tg tt fe ρ P ds acc k) R0
def dLc (fi : GDI S) (l : List Nat) (tg : DG) (tt : GDT S) (fe : GDE S) : GDA S := fun ρ n P R => fi ρ n (fun ds m => comp l tg tt fe ρ P ds [] m) R
theorem LF.lc {fi : GDI S} {l vs : List Nat} {tg : DG} {tt : GDT S} {fe : GDE S} {σ : L2.St} {H : Hp} {Q : VK} (hl : ∀ i ∈ vs, i ∈ l) (h : LF K TT E (dLc fi l tg tt fe) σ H Q) : tLc (LI K TT E fi) (gHide (LG (S := S) K vs tg)) (tHideT (LTs K TT E0 tt)) (tHide (LE K TT E0 fe)) l σ H Q := by
  obtain ⟨ρ, n, P, R, r, f, k, x⟩ := h
  refine ⟨ρ, n, _, R, r, f, fun ds m J H1 q e it D hD => ?_, x⟩
  have tab1 := e.tab x.tab
  have r1 := r.fre e
  have hD0 : ∀ {sh : Shp} (ys : List V), H D = some (OwnS sh ys D) → sto n D ≠ none := fun ys w ws => by rw [(e.own D ys w ws).1] at hD; cases hD
  have sD : sto m D = none := r1.st.free hD
  refine ⟨fun i j H' => j = ds.length - i ∧ i ≤ ds.length ∧ ∃ m' xs as, H' D = some (.lst xs) ∧ xs.length ≤ i ∧ sto m' D = none ∧ Fre K TT m H1 m' (upd H' D (OwnO xs D)) ∧ SeesL K m' (upd H' D (OwnO xs D)) xs as ∧ comp l tg tt fe ρ P (ds.drop i) as m', ⟨ds.length, by simp, Nat.zero_le _, m, [], [], upd_same, Nat.le_refl _, sD, ?_, .nil, q⟩, ?_⟩
  · rw [upd_upd]
    exact .grow (.new hD)
  rintro i j H' ⟨rfl, hi, m', xs, as, hx, hl', hs', g, sx, c⟩
  by_cases hlt : i < ds.length
  · rw [List.drop_eq_getElem_cons hlt] at c
    have lx : xs.length ≤ sizeLine := Nat.le_trans hl' (Nat.le_trans hi it.len)
    have back : upd (upd H' D (OwnO xs D)) D (.lst xs) = H' := upd_back hx
    have gm : Fra K TT m H1 m' H' := by
      have z := g.toFra.trans (Fra.melt (TT := TT) (n := m') (ys := xs) lx (show upd H' D (OwnO xs D) D = some (OwnO xs D) from upd_same) hs')
      rw [back] at z
      exact z
    refine .inr ⟨it.goes i _ _ hlt gm, fun H2 => ∃ m2 ys bs, H2 D = some (.lst ys) ∧ ys.length ≤ i + 1 ∧ sto m2 D = none ∧ Fre K TT m H1 m2 (upd H2 D (OwnO ys D)) ∧ SeesL K m2 (upd H2 D (OwnO ys D)) ys bs ∧ comp l tg tt fe ρ P (ds.drop (i + 1)) bs m2, fun H2 z => ⟨ds.length - (i + 1), by omega, rfl, hlt, z⟩, fun x H2 y => ?_⟩
    obtain ⟨gr, sx2⟩ := it.yields i m' H' x H2 _ (List.getElem?_eq_getElem hlt) gm y
    have hx2 : H2 D = some (.lst xs) := gr _ _ hx
    have gr2 : Grow (upd H' D (OwnO xs D)) (upd H2 D (OwnO xs D)) := fun b o w => by
      by_cases hb : b = D
      · subst hb
        rw [upd_same] at w ⊢
        exact w
      · rw [upd_ne hb] at w ⊢
        exact gr b o w
    have g2 : Fre K TT m H1 m' (upd H2 D (OwnO xs D)) := g.trans (.grow gr2)
    have sx3 := sx2 _ g2.toFra fun b o w1 w2 => by
      rw [upd_ne fun z => by rw [z, hx] at w2; cases w2]
      exact w1
    refine ⟨D, xs, hx2, _, m', _, _, (r1.fre g2).wipe l, sx3, c, fun ρ3 σ3 q3 r3 w3 => ⟨upd_same, ?_⟩⟩
    rw [upd_back hx2]
    refine ⟨(w3 l hl).trans ?_, D, xs, hx2, ρ3, m', _, _, r3, q3, fun b m3 H3 q4 e3 => ⟨(e3.own _ _ upd_same hs').1, ?_⟩, .zero (g2.tab tab1)⟩
    · exact wipe_wipe σ l
    · have o3 : H3 D = some (OwnO xs D) := (e3.own _ _ upd_same hs').1
      have s3 : sto m3 D = none := (e3.own _ _ upd_same hs').2
      have b3 : upd (upd H3 D (.lst xs)) D (OwnO xs D) = H3 := upd_back o3
      have g3 := g2.trans e3
      cases b with
      | true =>
        refine ⟨D, xs, upd_same, ?_⟩
        rw [b3]
        refine ⟨ρ3, m3, _, _, r3.fre e3, q4, fun d4 m4 v4 H4 q5 e4 s4 => ⟨(e4.own _ _ o3 s3).1, xs, upd_same, ?_, m4, xs ++ [v4], as ++ [d4], upd_same, by simp; omega, (e4.own _ _ o3 s3).2, ?_, ?_, q5⟩, .zero (g3.tab tab1)⟩
        · have := it.len
          omega
        all_goals rw [upd_upd, upd_upd]
        · refine ⟨(g3.trans e4).toFra.trans (.own (e4.own _ _ o3 s3).1 (e4.own _ _ o3 s3).2), fun b ys w ws => ?_⟩
          rw [upd_ne fun z => by rw [z, hD] at w; cases w]
          exact (g3.trans e4).own b ys w ws
        · have fo : Fra K TT m4 H4 m4 (upd H4 D (OwnO (xs ++ [v4]) D)) := .own (e4.own _ _ o3 s3).1 (e4.own _ _ o3 s3).2
          exact ((((sx.grow gr2).mono e3.toFra).mono e4.toFra).mono fo).append (.cons (s4.mono fo) .nil)
      | false =>
        refine ⟨m3, xs, as, upd_same, by omega, s3, ?_, ?_, q4⟩
        all_goals rw [b3]
        · exact g3
        · exact ((sx.grow gr2).mono e3.toFra)
  · have e2 : i = ds.length := by omega
    subst e2
    rw [List.drop_length] at c
    have lx : xs.length ≤ sizeLine := Nat.le_trans hl' it.len
    have back : upd (upd H' D (OwnO xs D)) D (.lst xs) = H' := upd_back hx
    have gm : Fra K TT m H1 m' H' := by
      have z := g.toFra.trans (Fra.melt (TT := TT) (n := m') (ys := xs) lx (show upd H' D (OwnO xs D) D = some (OwnO xs D) from upd_same) hs')
      rw [back] at z
      exact z
    exact .inl ⟨it.stops _ _ gm, k as m' xs D H' c hD0 hx lx hs' (e.trans g) sx⟩
end
end Aim

namespace Aim
open PySem PySem.Spec PyProof.Rows L2
open LamX (TabB Tabs CodeO)
open Stt (cnt sto)
variable {S : Type} [Stt S]
section
variable {K : PySem.W.Frag} {TT : List (Addr × Str)} {E : XK} {X : Cx} {e elt tg iter : Expr} {st : Stmt} {pos spos : Pos}
theorem lf_lc {ifs : List Expr} {scope : Scope} {own : List (Str × Nat)} {fi : GDI S} {vs : List Nat} {g : DG} {tt : GDT S} {fe : GDE S} (hc : X.calm = true) (hN : X.N.Nodup) (hi : PI X tg iter (LI K TT E fi)) (ok : BlkOk X.N X.env.scope scope own)
    (hg : ∀ (s : Shared) (H : Hp) (C : Addr) (cl : List (Str × Addr)) (fp : List Addr), PG (X.blk s H scope (compEnvC scope cl C X.env) fp) tg (LG (S := S) K vs g)) (ht : ∀ (s : Shared) (H : Hp) (C : Addr) (cl : List (Str × Addr)) (fp : List Addr), PTs (X.blk s H scope (compEnvC scope cl C X.env) fp) ifs (LTs K TT E0 tt))
    (he : ∀ (s : Shared) (H : Hp) (C : Addr) (cl : List (Str × Addr)) (fp : List Addr), PE (X.blk s H scope (compEnvC scope cl C X.env) fp) elt (LE K TT E0 fe)) (hl : ∀ i ∈ vs, i ∈ own.map (·.2) := by simp) (hs : ∀ x, foldedSetIterable iter X.env x = pure x := by intro _; rfl) :
    PE X (.ListComp elt [⟨tg, iter, ifs, 0⟩] scope pos) (LF K TT E (dLc fi (own.map (·.2)) g tt fe)) := (pe_lc hc hN hi ok (fun s H C cl fp => pg_hide (hg s H C cl fp)) (fun s H C cl fp => pts_hide (ht s H C cl fp)) (fun s H C cl fp => pe_hide (he s H C cl fp)) hs).imp fun _ _ _ h => h.lc hl
theorem st_lc {i : Nat} {y : Str} {py : Pos} {ifs : List Expr} {scope : Scope} {own : List (Str × Nat)} {fi : GDI S} {vs : List Nat} {g : DG} {tt : GDT S} {fe : GDE S} (hc : X.calm = true) (hN : X.N.Nodup) (hy : X.N[i]? = some y) (hyl : X.env.scope.names.lookup y = some .local)
    (hsw : swapsWith (.ListComp elt [⟨tg, iter, ifs, 0⟩] scope pos) (some (.Name y py)) spos.line X.env = pure true) (hi : PI X tg iter (LI K TT E fi)) (ok : BlkOk X.N X.env.scope scope own)
    (hg : ∀ (s : Shared) (H : Hp) (C : Addr) (cl : List (Str × Addr)) (fp : List Addr), PG (X.blk s H scope (compEnvC scope cl C X.env) fp) tg (LG (S := S) K vs g)) (ht : ∀ (s : Shared) (H : Hp) (C : Addr) (cl : List (Str × Addr)) (fp : List Addr), PTs (X.blk s H scope (compEnvC scope cl C X.env) fp) ifs (LTs K TT E0 tt))
    (he : ∀ (s : Shared) (H : Hp) (C : Addr) (cl : List (Str × Addr)) (fp : List Addr), PE (X.blk s H scope (compEnvC scope cl C X.env) fp) elt (LE K TT E0 fe)) (hl : ∀ i ∈ vs, i ∈ own.map (·.2) := by simp) (hs : ∀ x, foldedSetIterable iter X.env x = pure x := by intro _; rfl) :
    PS X (.Assign [.Name y py] (.ListComp elt [⟨tg, iter, ifs, 0⟩] scope pos) spos) (tAsg (LF K TT E (dLc fi (own.map (·.2)) g tt fe)) (gName i)) := (ps_setLc hc hN hy hyl hsw hi ok (fun s H C cl fp => pg_hide (hg s H C cl fp)) (fun s H C cl fp => pts_hide (ht s H C cl fp)) (fun s H C cl fp => pe_hide (he s H C cl fp)) hs).imp fun D σ H h => by
  have h : LF K TT E _ σ H (fun x H1 => gName i x σ H1 D.nx) := h
  exact h.lc hl
/-- x = a new list: as data -/
theorem LS.setF {i : Nat} {f : GDA S} {D : Ends} {σ : L2.St} {H : Hp} (h : LS K TT E (dAsg (dFr f) (dgName i)) D σ H) : tAsg (LF K TT E f) (gName i) D σ H := by
  obtain ⟨ρ, n, P, r, q, k⟩ := h
  refine ⟨ρ, n, _, P.ex, r, q, fun ds m xs p H' z h0 h1 l hs e s => ?_, k.ex.toE⟩
  have e' := e.new_list h0 h1 l hs
  exact k.nx _ m _ H' z e'.toFra ((r.fre e').put (sees_new h1 l hs s))
theorem ds_setF {i : Nat} {f : GDA S} (h : PS X st (tAsg (LF K TT E f) (gName i))) : PS X st (LS K TT E (dAsg (dFr f) (dgName i))) := h.imp fun _ _ _ h => h.setF
/-- x = a new list: as the slot's own -/
def dOwn (i : Nat) (f : GDA S) : GDS S := fun P ρ n => f ρ n (fun ds m => P.nx (ρ.set i (.own ds)) m) P.ex
theorem ps_own {t : TS} (h : PS X st t) : PS X st (fun D σ H => t { D with nx := fun σ' H' => ∃ a xs, H' a = some (.lst xs) ∧ D.nx σ' (upd H' a (OwnO xs a)) } σ H) := ⟨fun pins s σ H D I q => thn (h.run pins s σ H _ I q) fun f s1 z => by
  cases f with
  | next =>
    obtain ⟨σ', H', J, a, xs, e, q⟩ := z
    exact ⟨σ', _, to_own J e, q⟩
  | ret v => exact z
  | brk => exact z
  | cont => exact z⟩
theorem ds_own {i : Nat} {f : GDA S} (h : PS X st (tAsg (LF K TT E f) (gName i))) : PS X st (LS K TT E (dOwn i f)) := (ps_own h).imp fun D σ H h => by
  obtain ⟨ρ, n, P, r, q, k⟩ := h
  refine ⟨ρ, n, _, P.ex, r, q, fun ds m xs p H' z h0 h1 l hs e s => ⟨p, xs, h1, ?_⟩, k.ex.toE⟩
  refine k.nx _ m _ _ z e.toFra ((r.fre e).putOwn l upd_same hs s fun j b hj o w => ?_)
  obtain ⟨ds', e1⟩ := o.1
  obtain ⟨a', xs', e2, l', e3, s3, _⟩ := r.owned e1
  rw [o.2] at e2
  cases e2
  subst w
  exact h0 _ e3 s3
/-! ### lists of one's own, written -/
def ownOf : Sl → (List Dat → Prop) → Prop
  | .own ds, P => P ds
  | _, _ => False
theorem ownOf_of {ρ : List Sl} {i : Nat} {P : List Dat → Prop} (h : ownOf (slAt ρ i) P) : ∃ ds, ρ[i]? = some (.own ds) ∧ P ds := by
  cases e : slAt ρ i with
  | own ds => rw [e] at h; exact ⟨ds, slAt_of e (by simp), h⟩
  | _ => rw [e] at h; exact h.elim
theorem Rel.here {ρ : List Sl} {n : S} {σ : L2.St} {H : Hp} {i : Nat} {s : Sl} {o : Option V} (r : Rel K ρ n σ H) (h : ρ[i]? = some s) (h2 : σ[i]? = some o) : ρ.set i s = ρ ∧ σ.set i o = σ := by
  obtain ⟨a, b⟩ := List.getElem?_eq_some_iff.mp h
  obtain ⟨c, d⟩ := List.getElem?_eq_some_iff.mp h2
  exact ⟨by rw [← b]; simp, by rw [← d]; simp⟩
/-- the own list at slot i is written -/
theorem Rel.write {ρ : List Sl} {n : S} {σ : L2.St} {H : Hp} {i : Nat} {a : Addr} {xs ys : List V} {ds es : List Dat} (r : Rel K ρ n σ H) (h : ρ[i]? = some (.own ds)) (h2 : σ[i]? = some (some (.ref a))) (l : xs.length ≤ sizeLine) (e : H a = some (OwnO xs a)) (hs : sto n a = none) (l2 : ys.length ≤ sizeLine) (s : SeesL K n H ys es) : Rel K (ρ.set i (.own es)) n σ (upd H a (OwnO ys a)) := by
  have fo : Fra K [] n H n (upd H a (OwnO ys a)) := .own e hs
  have me : Owns ρ σ i a := ⟨⟨ds, h⟩, h2⟩
  have z := (Rel.drop (i := i) (o := none) r).mono fo (k2 := fun i C x dx ks ds zs _ hx hd s1 s2 => ⟨⟨not_makes e l hd, not_hid e hx⟩, s1, s2⟩) fun j b zs ow lz eb sb => ⟨by
    rw [upd_ne]
    intro w
    subst w
    obtain ⟨⟨ds', e1⟩, e2⟩ := ow
    by_cases hij : i = j
    · subst hij
      rw [List.getElem?_set] at e1
      split at e1
      · split at e1 <;> cases e1
      · rename_i w
        exact w rfl
    · rw [List.getElem?_set_ne hij] at e1 e2
      exact r.ap i j b b hij me ⟨⟨ds', e1⟩, e2⟩ rfl, sb⟩
  have q := z.putOwn (i := i) (a := a) (xs := ys) (ds := es) l2 upd_same hs (s.mono fo) fun j b hj ow w => by
    subst w
    obtain ⟨⟨ds', e1⟩, e2⟩ := ow
    rw [List.getElem?_set_ne (Ne.symm hj)] at e1 e2
    exact r.ap i j b b (Ne.symm hj) me ⟨⟨ds', e1⟩, e2⟩ rfl
  simp only [List.set_set] at q
  rw [(r.here h h2).2] at q
  exact q
/-- a method of a list that writes it -/
abbrev GO := List Dat → List Dat → (List Dat → Prop) → Prop
def OwnD (K : PySem.W.Frag) (r : V → List V → Hp → VK → Prop) (g : GO) : Prop := ∀ {U : Type} [Stt U] (n : U) (l : Addr) (xs vs : List V) (ds as : List Dat) (G H : Hp) (Q : VK) (P : List Dat → Prop), g ds as P → SeesL K n G xs ds → SeesL K n G vs as → H l = some (.lst xs) → xs.length ≤ sizeLine → (∀ ds' xs', P ds' → SeesL K n G xs' ds' → xs'.length ≤ sizeLine → Q .non (upd H l (.lst xs'))) → r (.ref l) vs H Q
def tOM (i : Nat) (r : V → List V → Hp → VK → Prop) (t : TA) : TS := fun D σ H => ∃ l xs, σ[i]? = some (some (.ref l)) ∧ H l = some (OwnO xs l) ∧ t σ H fun vs H1 => ∃ ys, H1 l = some (OwnO ys l) ∧ r (.ref l) vs (upd H1 l (.lst ys)) fun _ H2 => ∃ zs, H2 l = some (.lst zs) ∧ D.nx σ (upd H2 l (OwnO zs l))
theorem ps_om {i : Nat} {x name : Str} {id : String} {r : V → List V → Hp → VK → Prop} {es : List Expr} {t : TA} {p apos cpos : Pos} (slot : Slot "list" name id) (hty : typeOf (.builtin id) = pure (.type "method_descriptor")) (hm : MtR X id r) (hN : X.N[i]? = some x) (hv : Vis X.env.scope x) (ha : PA X (e :: es) t) (hd : (x == ("__debug__" : Str)) = false := by decide) (hcd : (x == ("__classdict__" : Str)) = false := by decide)
    (hbase : attributeBase (.Name x p) name X.env (eval (.Name x p) X.env) = eval (.Name x p) X.env := by rfl)
    (hfew : ((backTo cpos (starEach (e :: es) X.env)).all (fun x => !x.1) && (backToKw cpos (keywordEach [] X.env)).all (fun x => x.1.isSome)
      && decide ((e :: es).length + ([] : List Keyword).length + (if ([] : List Keyword).isEmpty then 0 else 1) < 30)) = true := by rfl)
    (hline : (apos.endLine == cpos.line) = true := by rfl) (hs : starEach (e :: es) X.env = (false, eval e X.env) :: starEach es X.env := by rfl) (hplain : (backTo cpos (starEach es X.env)).any (·.1) = false := by rfl)
    (hsw : swapsWith (.Call (.Attribute (.Name x p) name apos) (e :: es) [] cpos) none pos.line X.env = pure false := by rfl) :
    PS X (.Expr (.Call (.Attribute (.Name x p) name apos) (e :: es) [] cpos) pos) (tOM i r t) := by
  refine ⟨fun pins s σ H D I ⟨l, xs, hσ, hH, h⟩ => ?_⟩
  refine wpAny_Expr_any ?_ I.quiet hsw
  refine wpAny_Call_method_late hbase hfew hline rfl (thn ((pe_var (pos := p) hN hv hd hcd).run pins s σ H (fun v H1 => v = .ref l ∧ H1 = H) I ⟨_, hσ, rfl, rfl⟩) fun v s1 ⟨x, H1, I1, r1, ex, eH⟩ => ?_)
  subst ex
  subst eH
  obtain ⟨h1, h2⟩ := tyV_is (of_own I1 hH) r1 (.inl ⟨rfl, xs, SqL.of upd_same⟩)
  refine ⟨"list", id, PySem.F.plainAttrs_list, slot, hty, h1, h2, ?_⟩
  have hA := ha.run cpos pins s1 σ H1 _ I1 h
  rw [hs] at hA ⊢
  refine Calls.callWith_builtin (by show (false || (backTo cpos (starEach es X.env)).any (·.1)) = false; rw [hplain] <;> rfl) (Calls.evalArgs_plain ?_)
  refine thn hA fun us s2 ⟨vs, H2, I2, r2, ys, e2, q2⟩ => ?_
  refine thn (hm pins s2 σ _ (.ref l) vs v us _ (of_own I2 e2) r1 r2 q2) fun u s3 ⟨w, H3, I3, r3, zs, e3, q3⟩ => ?_
  exact ⟨σ, _, to_own I3 e3, q3⟩
def dOM (i : Nat) (g : GO) (f : GDA S) : GDS S := fun P ρ n => ownOf (slAt ρ i) fun _ => f ρ n (fun as m => ownOf (slAt ρ i) fun ds => g ds as fun ds' => P.nx (ρ.set i (.own ds')) m) P.ex
theorem ds_om {i : Nat} {r : V → List V → Hp → VK → Prop} {g : GO} {fr : GDA S} (o : OwnD K r g) (h : PS X st (tOM i r (LA K TT E fr))) : PS X st (LS K TT E (dOM i g fr)) := h.imp fun D σ H ⟨ρ, n, P, rl, q, k⟩ => by
  obtain ⟨ds, hρ, q⟩ := ownOf_of q
  obtain ⟨a, xs, hσ, l, hH, hs, sx⟩ := rl.owned hρ
  refine ⟨a, xs, hσ, hH, ρ, n, _, P.ex, rl, q, fun as m vs H1 q1 e1 s1 => ?_, k.ex.toE⟩
  obtain ⟨ds', hρ', q1⟩ := ownOf_of q1
  rw [hρ] at hρ'
  cases hρ'
  have h1 := (e1.own _ _ hH hs).1
  have hs1 := (e1.own _ _ hH hs).2
  refine ⟨xs, h1, o m a xs vs ds as H1 _ _ _ q1 (sx.mono e1.toFra) s1 upd_same l fun ds' xs' q2 s2 l2 => ⟨xs', upd_same, ?_⟩⟩
  rw [upd_upd, upd_upd]
  exact k.nx _ m _ _ q2 (e1.toFra.trans (.own h1 hs1)) ((rl.fre e1).write hρ hσ l h1 hs1 l2 s2)
/-- an own list becomes data -/
def dMelt (i : Nat) (g : GDS S) : GDS S := fun P ρ n => ownOf (slAt ρ i) fun ds => g P (ρ.set i (.val (.lst ds))) n
theorem ds_melt {i : Nat} {g : GDS S} (h : PS X st (LS K TT E g)) : PS X st (LS K TT E (dMelt i g)) := ⟨fun pins s σ H D I ⟨ρ, n, P, rl, q, k⟩ => by
  obtain ⟨ds, hρ, q⟩ := ownOf_of q
  obtain ⟨a, xs, hσ, l, hH, hs, sx⟩ := rl.owned hρ
  have fm : Fra K TT n H n (upd H a (.lst xs)) := .melt l hH hs
  refine h.run pins s σ _ D (of_own I hH) ⟨_, n, P, ?_, q, k.mono fm⟩
  have me : Owns ρ σ i a := ⟨⟨ds, hρ⟩, hσ⟩
  have z := (Rel.drop (i := i) (o := none) rl).mono fm (k2 := fun i C x dx ks ds zs _ hx hd s1 s2 => ⟨⟨not_makes hH l hd, not_hid hH hx⟩, s1, s2⟩) fun j b zs ow lz eb sb => ⟨by
    rw [upd_ne]
    intro w
    subst w
    obtain ⟨⟨ds', e1⟩, e2⟩ := ow
    by_cases hij : i = j
    · subst hij
      rw [List.getElem?_set] at e1
      split at e1
      · split at e1 <;> cases e1
      · rename_i w
        exact w rfl
    · rw [List.getElem?_set_ne hij] at e1 e2
      exact rl.ap i j b b hij me ⟨⟨ds', e1⟩, e2⟩ rfl, sb⟩
  have w := z.put (i := i) (Sees.lstOf (K := K) (n := n) (H := upd H a (.lst xs)) upd_same l (sx.mono fm))
  simp only [List.set_set] at w
  rw [(rl.here hρ hσ).2] at w
  exact w⟩
end
end Aim

namespace Aim
open PySem PySem.Spec PyProof.Rows L2
open LamX (TabB Tabs CodeO)
open Stt (cnt sto)
variable {S : Type} [Stt S]
/-! ### calls: the callee is not told of lists that slots hold alone -/
def Prv (n : S) (H : Hp) (b : Addr) : Prop := (∃ (sh : Shp) (xs : List V), H b = some (OwnS sh xs b)) ∧ sto n b = none
open Classical in
noncomputable def cutO (n : S) (H : Hp) : Hp := fun b => if Prv n H b then none else H b
open Classical in
noncomputable def glueO (n : S) (H G : Hp) : Hp := fun b => if Prv n H b then H b else G b
section
variable {P : Program} {w : World} {K : PySem.W.Frag} {mg : Str → Option Value} {base : Heap} {TT : List (Addr × Str)} {n m : S} {H G : Hp} {h h' : Heap} {b : Addr} {o : HO}
theorem cutO_in (p : Prv n H b) : cutO n H b = none := if_pos p
theorem cutO_out (p : ¬ Prv n H b) : cutO n H b = H b := if_neg p
theorem glueO_in (p : Prv n H b) : glueO n H G b = H b := if_pos p
theorem glueO_out (p : ¬ Prv n H b) : glueO n H G b = G b := if_neg p
theorem cutO_some (e : cutO n H b = some o) : ¬ Prv n H b ∧ H b = some o := by
  by_cases p : Prv n H b
  · rw [cutO_in p] at e
    cases e
  · rw [cutO_out p] at e
    exact ⟨p, e⟩
theorem cutO_none (e : H b = none) : cutO n H b = none := by
  by_cases p : Prv n H b
  · exact cutO_in p
  · rw [cutO_out p]
    exact e
theorem perm_pub (e : H b = some o) (p : Perm b o) : ¬ Prv n H b := fun ⟨⟨sh, xs, z⟩, _⟩ => by
  rw [e] at z
  exact p.2.1 xs (Option.some.inj z)
theorem pot_pub {k : Nat} (e : H b = some (PotO k b)) : ¬ Prv n H b := fun ⟨⟨sh, xs, z⟩, _⟩ => by
  rw [e] at z
  exact own_pot (Option.some.inj z).symm
theorem code_pub {q : Str} (e : H b = some (CodeO b q)) : ¬ Prv n H b := fun ⟨⟨sh, xs, z⟩, _⟩ => by
  rw [e] at z
  exact own_code (Option.some.inj z)
theorem tbl_pub {ps : Array Value} (e : H b = some (.tbl ps)) : ¬ Prv n H b := fun ⟨⟨sh, xs, z⟩, _⟩ => by
  rw [e] at z
  unfold OwnS at z
  cases z
theorem tabs_map {H G : Hp} (t : Tabs TT H) (k : ∀ b o, H b = some o → ¬ Prv n H b → G b = some o) : Tabs TT G := fun x hx => by
  obtain ⟨ps, h1, h2, h3⟩ := t x hx
  refine ⟨ps, k _ _ h1 (tbl_pub h1), h2, fun pos cv hc => ?_⟩
  obtain ⟨c, e1, e2⟩ := h3 pos cv hc
  exact ⟨c, e1, k _ _ e2 (code_pub e2)⟩
theorem Frb.cut : Frb n H n (cutO n H) := ⟨Nat.le_refl _, fun b o e p => by rw [cutO_out (perm_pub e p)]; exact e, fun b k l e => ⟨k, l, by rw [cutO_out (pot_pub e)]; exact e⟩⟩
theorem Fra.cut : Fra K TT n H n (cutO n H) := ⟨.cut, fun t => tabs_map t fun b o e p => by rw [cutO_out p]; exact e, fun t => t.mono .cut rfl fun a xs sh ns e => by
  rw [cutO_out fun p => ns p.2]
  exact e⟩
theorem Fre.glue (f : Fra K TT n (cutO n H) m G) (t0 : StoOk K n H) (gone : ∀ b, Prv n H b → G b = none) : Fre K TT n H m (glueO n H G) := by
  have z := Fra.cut.trans f
  have out : ∀ {b : Addr} {o : HO}, G b = some o → glueO n H G b = some o := fun {b o} e => by
    rw [glueO_out fun p => by rw [gone b p] at e; cases e]
    exact e
  refine ⟨⟨⟨z.le, fun b o e p => out (z.keep b o e p), fun b k l e => ?_⟩, fun t => (z.tab t).ext fun b o e => out e, fun t => ?_⟩, fun b xs e s => ?_⟩
  · obtain ⟨j, h1, h2⟩ := z.pot b k l e
    exact ⟨j, h1, out h2⟩
  · exact (z.st t).mono (.growB fun b o e => out e) rfl fun a xs sh _ e => out e
  · rw [glueO_in ⟨⟨_, xs, e⟩, s⟩]
    exact ⟨e, (z.st t0).free (gone b ⟨⟨_, xs, e⟩, s⟩)⟩
theorem grow_glue (gone : ∀ b, Prv n H b → G b = none) : Grow G (glueO n H G) := fun b o e => by
  rw [glueO_out fun p => by rw [gone b p] at e; cases e]
  exact e
theorem prv_there {P : Program} {w : World} (hok : HOk P w H h) (p : Prv n H b) : ∃ o, h.get? b = some o := by
  obtain ⟨⟨sh, xs, e⟩, _⟩ := p
  obtain ⟨_, q, _⟩ := (show ObjOk P w H h b (OwnS sh xs b) from hok b _ e)
  exact q
theorem env0_cutO {A : Around} {outer : List Env} {s : Shared} (e : Env0 P w K mg base A outer s H) : Env0 P w K mg base A outer s (cutO n H) := by
  refine ⟨e.frames, e.mod, fun b o q => ⟨(e.bs b o q).1, cutO_none (e.bs b o q).2⟩, e.bsz, e.funs, fun b q => cutO_none (e.frf b q), fun b o q => ?_, e.bare⟩
  obtain ⟨n, q⟩ := cutO_some q
  refine ok_beside (e.hok b o q) (fun c z => ?_) fun c xs z => ?_
  · rw [cutO_out (perm_pub z (perm_ext (fun _ z => nomatch z) fun _ z => nomatch z))]
    exact z
  · rw [cutO_out (perm_pub z (perm_ext (fun _ z => nomatch z) fun _ z => nomatch z))]
    exact z
theorem hok_glue {hB : Heap} (hok : HOk P w H h) (hokG : HOk P w G hB) (gone : ∀ b, Prv n H b → G b = none) (kept : ∀ b, Prv n H b → ∀ o, h.get? b = some o → hB.get? b = some o) : HOk P w (glueO n H G) hB := fun b o e => by
  by_cases p : Prv n H b
  · rw [glueO_in p] at e
    obtain ⟨⟨sh, xs, q⟩, _⟩ := id p
    rw [q] at e
    cases e
    exact ok_hidden (by unfold OwnS; exact True.intro) (hok b _ q) (kept b p)
  · rw [glueO_out p] at e
    exact ok_beside (hokG b o e) (fun c z => grow_glue gone c _ z) fun c xs z => grow_glue gone c _ z
theorem ce_glueO {outer : List Env} {s s' : Shared} {Q : VK} {u : Value} (hok : HOk P w H s.heap) (frf : ∀ b ∈ frs outer, H b = none) (c : CE outer P w (cutO n H) s (fun v G => (∀ b, Prv n H b → G b = none) → Q v (glueO n H G)) u s') : CE outer P w H s Q u s' := by
  obtain ⟨v, G, os, bare, un, hok', r, q⟩ := c
  have gone : ∀ b, Prv n H b → G b = none := fun b hb => by
    obtain ⟨o, e⟩ := prv_there hok hb
    exact un.free b o e (cutO_in hb) (by simp)
  have kept : ∀ b, Prv n H b → ∀ o, s.heap.get? b = some o → s'.heap.get? b = some o := fun b hb o e => by
    obtain ⟨⟨_, u, e1⟩, _⟩ := id hb
    exact un.keep b o e (cutO_in hb) (fun z => by rw [frf b z] at e1; cases e1) (by simp)
  refine ⟨v, glueO n H G, os, bare, ⟨fun b o e e0 => un.keep b o e (cutO_none e0), fun b o e e0 => un.slot b o e (cutO_none e0), fun b o e e0 x => ?_, un.there, fun b xs e => ?_, fun b o u e => ?_, fun b ps e => ?_⟩, hok_glue hok hok' gone kept, r, q gone⟩
  · by_cases hb : Prv n H b
    · rw [glueO_in hb]
      exact e0
    · rw [glueO_out hb]
      exact un.free b o e (cutO_none e0) x
  · have p := perm_pub (n := n) e (perm_ext (fun _ z => nomatch z) fun _ z => nomatch z)
    rw [glueO_out p]
    exact un.tups b xs (by rw [cutO_out p]; exact e)
  · have p := perm_pub (n := n) e (perm_ext (fun _ z => nomatch z) fun _ z => nomatch z)
    rw [glueO_out p]
    exact un.frzs b o u (by rw [cutO_out p]; exact e)
  · have p := tbl_pub (n := n) e
    rw [glueO_out p]
    exact un.tbls b ps (by rw [cutO_out p]; exact e)
theorem cx_glueO {outer : List Env} {s s' : Shared} {E : XK} {u : Value} (hok : HOk P w H s.heap) (frf : ∀ b ∈ frs outer, H b = none) (c : L2.CX P w outer (cutO n H) s (fun c d G => (∀ b, Prv n H b → G b = none) → E c d (glueO n H G)) u s') : L2.CX P w outer H s E u s' := by
  obtain ⟨a, B, G, cls, d, eu, fl, hok', ub, na, os, bare, q⟩ := c
  have gone : ∀ b, Prv n H b → G b = none := fun b hb => by
    obtain ⟨o, e⟩ := prv_there hok hb
    exact ub.free b o e (cutO_in hb)
  have kept : ∀ b, Prv n H b → ∀ o, s.heap.get? b = some o → B.get? b = some o := fun b hb o e => by
    obtain ⟨⟨_, u, e1⟩, _⟩ := id hb
    exact ub.keep b o e (cutO_in hb) (fun z => by rw [frf b z] at e1; cases e1)
  refine ⟨a, B, glueO n H G, cls, d, eu, fl, hok_glue hok hok' gone kept, ⟨fun b o e e0 => ub.keep b o e (cutO_none e0), ub.slot, fun b o e e0 => ?_, ub.there, fun b xs e => ?_, fun b o u e => ?_, fun b ps e => ?_⟩, ?_, os, bare, q gone⟩
  · by_cases hb : Prv n H b
    · rw [glueO_in hb]
      exact e0
    · rw [glueO_out hb]
      exact ub.free b o e (cutO_none e0)
  · have p := perm_pub (n := n) e (perm_ext (fun _ z => nomatch z) fun _ z => nomatch z)
    rw [glueO_out p]
    exact ub.tups b xs (by rw [cutO_out p]; exact e)
  · have p := perm_pub (n := n) e (perm_ext (fun _ z => nomatch z) fun _ z => nomatch z)
    rw [glueO_out p]
    exact ub.frzs b o u (by rw [cutO_out p]; exact e)
  · have p := tbl_pub (n := n) e
    rw [glueO_out p]
    exact ub.tbls b ps (by rw [cutO_out p]; exact e)
  · by_cases hb : Prv n H a
    · obtain ⟨o, e⟩ := prv_there hok hb
      have z := kept a hb o e
      rw [fl.2.1] at z
      cases z
    · rw [glueO_out hb]
      exact na
end
/-! ### promises by data -/
abbrev GDSp (S : Type) := List Dat → S → (Dat → S → Prop) → GRX S → Prop
abbrev DSp := GDSp Nat
def LSp (K : PySem.W.Frag) (TT : List (Addr × Str)) (sp : GDSp S) : Sp := fun vs H Q E => ∃ ds n P R, SeesL K n H vs ds ∧ sp ds n P R ∧ (∀ d m v H', P d m → Fra K TT n H m H' → Sees K m H' v d → Q v H') ∧ ExOk K TT E n H R ∧ StoOk K n H
def spO (sp : Sp) : Sp := fun vs H Q E => ∃ (U : Type) (_ : Stt U) (n : U), sp vs (cutO n H) (fun v G => (∀ b, Prv n H b → G b = none) → Q v (glueO n H G)) (fun c d G => (∀ b, Prv n H b → G b = none) → E c d (glueO n H G))
def dCall (sp : GDSp S) (fr : GDA S) : GDE S := fun ρ n P R => fr ρ n (fun ds m => sp ds m P R) R
section
variable {X : Cx} {TT : List (Addr × Str)} {E : XK} {k j : Nat} {G : Bool} {x : Str} {sp : GDSp S} {e : Expr} {es : List Expr} {fr : GDA S} {p pos : Pos}
theorem run_dfO {pins : List (Addr × Obj)} {σ : L2.St} {H : Hp} {s : Shared} {Q : VK} {f : Addr} {fd : FuncData} {ps : List Str} {us : List Value} {vs : List V} {sp : Sp} (F : Rn X.prog X.w X.K X.mg X.base G k f fd ps sp) (hr : Room k X.A) (hg : G = true → X.A.guards = some []) (hb : L2.Binds X.K fd ps [])
    (hx : Passes (L2.CX X.prog X.w) X E) (I : Inv X pins σ H s) (r : Vals vs us) (h : spO sp vs H Q E) : wpAny (model X.prog X.w) X.A (call (.ref f) us) (EP X pins σ Q) X.xe s := by
  obtain ⟨U, _, n, h⟩ := h
  have hl : vs.length = ps.length := F.len _ _ _ _ h
  have hb' := hb s us I.kIn (by rw [List.append_nil, ← r.length]; exact hl)
  rw [List.append_nil] at hb'
  refine wpAny_call (codeAny_mono (F.run (s := s) (args := ⟨us, []⟩) hr hg (env0_cutO I.env0) hb' r h) fun y s' hq => ?_)
  match y, hq with
  | .error e, hq => exact hx pins σ H s e s' I (cx_glueO I.hok I.env0.frf hq)
  | .ok (.ret u), hq => exact I.after (ce_glueO I.hok I.env0.frf hq)
theorem lsp_go {σ : L2.St} {H : Hp} {Q : VK} (h : LE (S := S) X.K TT E (dCall sp fr) σ H Q) : LA X.K TT E fr σ H fun vs H1 => spO (LSp X.K TT sp) vs H1 Q E := by
  obtain ⟨ρ, n, P, R, r, f, k, x⟩ := h
  refine ⟨ρ, n, _, R, r, f, fun ds m vs H1 q e s => ⟨S, _, m, ds, m, P, R, s.mono (TT := TT) Fra.cut, q, fun d j v G p g t gone => ?_, ⟨(Fra.cut (K := X.K) (n := m)).tab (e.tab x.tab), fun C d j dd v G p g hd t gone => ?_⟩, (Fra.cut (TT := TT)).st (e.st r.st)⟩, x⟩
  · exact k d j v _ p (e.trans (.glue g (e.st r.st) gone)) (t.grow (grow_glue gone))
  · exact x.ex C d j dd v _ p (e.trans (Fre.glue g (e.st r.st) gone)) (grow_glue gone _ _ hd) (t.grow (grow_glue gone))
theorem de_call (d : Df X.prog X.w X.K X.mg X.base G k x (LSp X.K TT sp)) (hr : Room j X.A) (hk : k ≤ j) (hg : G = true → X.A.guards = some []) (gl : Gl X x) (hx : Passes (L2.CX X.prog X.w) X E) (ha : PA X (e :: es) (LA X.K TT E fr))
    (hdb : (x == ("__debug__" : Str)) = false := by decide) (he : starEach (e :: es) X.env = (false, eval e X.env) :: starEach es X.env := by rfl) (hpl : (backTo pos (starEach es X.env)).any (·.1) = false := by rfl) :
    PE X (.Call (.Name x p) (e :: es) [] pos) (LE (S := S) X.K TT E (dCall sp fr)) := by
  obtain ⟨f, fd, ps, F, hm, hkp, hb⟩ := d.ex
  refine ⟨fun pins s σ H Q I h => wpAny_Call_Name_kw (ld_glob I gl hm ?_ hdb)⟩
  exact PySem.W.callWith_K (h₀ := X.base) I.ok.mod.kin hkp (thn (ha.run pos pins s σ H _ I (lsp_go h)) fun us s1 ⟨vs, H1, I1, r, q⟩ => ⟨I1.kIn, run_dfO F (hr.mono hk) hg hb hx I1 r q⟩) he hpl
theorem de_call0 (d : Df X.prog X.w X.K X.mg X.base G k x (LSp X.K TT sp)) (hr : Room j X.A) (hk : k ≤ j) (hg : G = true → X.A.guards = some []) (gl : Gl X x) (hx : Passes (L2.CX X.prog X.w) X E) (hdb : (x == ("__debug__" : Str)) = false := by decide) :
    PE X (.Call (.Name x p) [] [] pos) (LE (S := S) X.K TT E (dCall sp dNil)) := by
  obtain ⟨f, fd, ps, F, hm, hkp, hb⟩ := d.ex
  refine ⟨fun pins s σ H Q I h => wpAny_Call_Name_kw (ld_glob I gl hm ?_ hdb)⟩
  refine PySem.W.callWith_K0 I.kIn hkp (run_dfO (us := []) F (hr.mono hk) hg hb hx I .nil ?_)
  obtain ⟨ρ, n, P, R, r, f, k, x⟩ := h
  refine ⟨S, _, n, [], n, P, R, .nil, f, fun d j v G p g t gone => ?_, ⟨(Fra.cut (K := X.K) (n := n)).tab x.tab, fun C d j dd v G p g hd t gone => ?_⟩, (Fra.cut (TT := TT)).st r.st⟩
  · exact k d j v _ p (.glue g r.st gone) (t.grow (grow_glue gone))
  · exact x.ex C d j dd v _ p (Fre.glue g r.st gone) (grow_glue gone _ _ hd) (t.grow (grow_glue gone))
end
/-! ### a def's promise by its body -/
def dstart (N : List Str) (ds : List Dat) : List Sl := ds.map .val ++ List.replicate (N.length - ds.length) .no
theorem rel_start {K : PySem.W.Frag} {n : S} {H : Hp} {vs : List V} {ds : List Dat} (s : SeesL K n H vs ds) (N : List Str) (st : StoOk K n H) : Rel K (dstart N ds) n (start N vs) H := by
  have l := s.length
  refine ⟨by simp [dstart, L2.start, l], fun i z e => ?_, fun i j a b ne o1 o2 => ?_, st⟩
  · unfold dstart at e
    rw [List.getElem?_append] at e
    unfold L2.start
    split at e
    · rename_i hi
      rw [List.getElem?_map] at e
      cases hd : ds[i]? with
      | none => rw [hd] at e; cases e
      | some d =>
        rw [hd] at e
        cases e
        obtain ⟨v, hv, sv⟩ := s.getD hd
        refine ⟨some v, ?_, .val sv⟩
        rw [List.getElem?_append, if_pos (by simp at hi ⊢; omega), List.getElem?_map, hv]
        rfl
    · rename_i hi
      simp only [List.length_map] at e hi
      obtain ⟨h1, h2⟩ := List.getElem?_eq_some_iff.mp e
      have h3 := h1
      rw [List.length_replicate] at h3
      refine ⟨none, ?_, ?_⟩
      · rw [List.getElem?_append, if_neg (by simp; omega)]
        rw [List.length_map, l, List.getElem?_replicate, if_pos h3]
      · simp at h2
        subst h2
        exact .no
  · obtain ⟨⟨ds', e⟩, _⟩ := o1
    exfalso
    unfold dstart at e
    rw [List.getElem?_append] at e
    split at e
    · rw [List.getElem?_map] at e
      cases hd : ds[i]? with
      | none => rw [hd] at e; cases e
      | some d => rw [hd] at e; cases e
    · obtain ⟨h1, h2⟩ := List.getElem?_eq_some_iff.mp e
      simp at h2
section
variable {P : Program} {w : World} {K : PySem.W.Frag} {mg : Str → Option Value} {base : Heap} {TT : List (Addr × Str)} {G : Bool} {x : Str} {st : Stmt} {N ps : List Str} {k : Nat} {sp : GDSp S}
theorem ends_of {E : XK} {g : GDS S} {vs : List V} {ds : List Dat} {n : S} {H : Hp} {Q : VK} {PP : Dat → S → Prop} {R : GRX S} (s : SeesL K n H vs ds) (q : g { nx := fun _ m => PP .non m, rt := PP, ex := R } (dstart N ds) n) (kQ : ∀ d m v H', PP d m → Fra K TT n H m H' → Sees K m H' v d → Q v H') (kE : ExOk K TT E n H R) (kS : StoOk K n H) : LS K TT E g { nx := fun _ H' => Q .non H', rt := Q } (start N vs) H :=
  ⟨_, n, _, rel_start s N kS, q, ⟨fun ρ m σ H' p f _ => kQ _ m _ H' p f .non, kQ, fun _ _ _ _ z => z.elim, fun _ _ _ _ z => z.elim, kE⟩⟩
/-- a def that lets nothing out -/
theorem dat_ok (F : Has K mg x st) (hb : ∀ f fd, L2.Fun K x x st f fd → L2.Binds K fd ps []) (S : FnScope N ps (defScope st))
    (body : ∀ (f : Addr) (cdv : Value) (A : Around) (outer : List Env) (s : Shared) (H : Hp) (E : XK), Room k (A.deeper (envOfC x (defScope st) s.heap.objs.size f cdv)) → (G = true → A.guards = some []) →
      ∃ g, PSs (cxOf (L2.CX P w) P w K mg base N x (defScope st) f cdv A outer s H E).nox (defBody st) (LS K TT E0 g) ∧ ∀ ds n PP R, sp ds n PP R → ds.length = ps.length ∧ g { nx := fun _ m => PP .non m, rt := PP, ex := R0 } (dstart N ds) n)
    (hl : ∀ ds n PP R, sp ds n PP R → ds.length = ps.length) : Df P w K mg base G (k + 1) x (LSp K TT sp) := by
  obtain ⟨f, fd, F, hm⟩ := F.ex
  refine df_ok F hm (hb f fd F) S (fun vs H Q E h => ?_) (fun cdv A outer s H vs Q E hr hG h => ?_)
  · obtain ⟨ds, n, PP, R, s, h, _⟩ := h
    rw [s.length]
    exact hl _ _ _ _ h
  · obtain ⟨g, hp, q⟩ := body f cdv A outer s H E hr hG
    obtain ⟨ds, n, PP, R, se, h, kQ, kE, kS⟩ := h
    exact ⟨_, hp, ends_of se (q ds n PP R h).2 kQ (.zero kE.tab) kS⟩
/-- a def that may let errors out -/
theorem dat_okX (F : Has K mg x st) (hb : ∀ f fd, L2.Fun K x x st f fd → L2.Binds K fd ps []) (S : FnScope N ps (defScope st))
    (body : ∀ (f : Addr) (cdv : Value) (A : Around) (outer : List Env) (s : Shared) (H : Hp) (E : XK), Room k (A.deeper (envOfC x (defScope st) s.heap.objs.size f cdv)) → (G = true → A.guards = some []) →
      ∃ g, PSs (cxOf (L2.CX P w) P w K mg base N x (defScope st) f cdv A outer s H E) (defBody st) (LS K TT E g) ∧ ∀ ds n PP R, sp ds n PP R → ds.length = ps.length ∧ g { nx := fun _ m => PP .non m, rt := PP, ex := R } (dstart N ds) n)
    (hl : ∀ ds n PP R, sp ds n PP R → ds.length = ps.length) : Df P w K mg base G (k + 1) x (LSp K TT sp) := by
  obtain ⟨f, fd, F, hm⟩ := F.ex
  refine df_okX F hm (hb f fd F) S (fun vs H Q E h => ?_) (fun cdv A outer s H vs Q E hr hG h => ?_)
  · obtain ⟨ds, n, PP, R, s, h, _⟩ := h
    rw [s.length]
    exact hl _ _ _ _ h
  · obtain ⟨g, hp, q⟩ := body f cdv A outer s H E hr hG
    obtain ⟨ds, n, PP, R, se, h, kQ, kE, kS⟩ := h
    exact ⟨_, hp, ends_of se (q ds n PP R h).2 kQ kE kS⟩
end
end Aim

namespace Aim
open PySem PySem.Spec PyProof.Rows L2
open LamX (TabB Tabs CodeO)
open Stt (cnt sto)
variable {S : Type} [Stt S]
/-! ### plain data -/
mutual
def py : Dat → PyData
  | .non => .none | .bl b => .bool b | .int i => .int i | .str x => .str x
  | .tup xs => .tuple (pys xs) | .lst xs => .list (pys xs)
  | .byt _ => .none | .ty _ => .none | .ref _ => .none | .pot => .none | .dct _ _ => .none | .obj _ _ _ => .none | .exc _ _ => .none | .scr _ => .none
def pys : List Dat → List PyData
  | [] => []
  | x :: xs => py x :: pys xs
end
mutual
def plain : Dat → Bool
  | .non => true | .bl _ => true | .int _ => true | .str _ => true
  | .tup xs => plains xs | .lst xs => plains xs
  | .byt _ => false | .ty _ => false | .ref _ => false | .pot => false | .dct _ _ => false | .obj _ _ _ => false | .exc _ _ => false | .scr _ => false
def plains : List Dat → Bool
  | [] => true
  | x :: xs => plain x && plains xs
end
/-- data that == takes -/
def cmpOk (d : Dat) : Prop := plain d = true ∧ (py d).depth ≤ 60
/-- d == e -/
def eqD (d e : Dat) : Bool := PyData.eqv (py d) (py e)
theorem pys_len : ∀ ds : List Dat, (pys ds).length = ds.length
  | [] => rfl
  | _ :: r => congrArg (· + 1) (pys_len r)
section
variable {K : PySem.W.Frag} {TT : List (Addr × Str)} {E : XK} {X : Cx} {n : S} {H H' : Hp}
mutual
theorem Sees.dd : ∀ {v : V} {d : Dat}, Sees K n H v d → plain d = true → DD K H v (py d)
  | _, _, .non => fun _ => .non
  | _, _, .bl b => fun _ => .bl b
  | _, _, .int i => fun _ => .int i
  | _, _, .str x l => fun _ => .str x
  | _, _, .tup h l s => fun p => .tup h.sqT (SeesL.dd s p)
  | _, _, .lst h l s => fun p => .lst (.of h) (SeesL.dd s p)
  | _, _, .byt _ _ => fun p => nomatch p
  | _, _, .ty _ => fun p => nomatch p
  | _, _, .ref _ => fun p => nomatch p
  | _, _, .pot _ _ => fun p => nomatch p
  | _, _, .dct _ _ _ => fun p => nomatch p
  | _, _, .obj _ _ _ => fun p => nomatch p
  | _, _, .exc _ _ _ => fun p => nomatch p
  | _, _, .scr _ => fun p => nomatch p
theorem SeesL.dd : ∀ {vs : List V} {ds : List Dat}, SeesL K n H vs ds → plains ds = true → DDs K H vs (pys ds)
  | _, _, .nil => fun _ => .nil
  | _, _, .cons h r => fun p => .cons (Sees.dd h (Bool.and_eq_true_iff.mp p).1) (SeesL.dd r (Bool.and_eq_true_iff.mp p).2)
end
mutual
theorem Sees.lay : ∀ {v : V} {d : Dat}, Sees K n H v d → plain d = true → PyData.canLay0 (py d) = true
  | _, _, .non => fun _ => rfl
  | _, _, .bl b => fun _ => rfl
  | _, _, .int i => fun _ => rfl
  | _, _, .str x l => fun _ => l.2
  | _, _, .tup h l s => fun p => SeesL.lay s p
  | _, _, .lst h l s => fun p => SeesL.lay s p
  | _, _, .byt _ _ => fun p => nomatch p
  | _, _, .ty _ => fun p => nomatch p
  | _, _, .ref _ => fun p => nomatch p
  | _, _, .pot _ _ => fun p => nomatch p
  | _, _, .dct _ _ _ => fun p => nomatch p
  | _, _, .obj _ _ _ => fun p => nomatch p
  | _, _, .exc _ _ _ => fun p => nomatch p
  | _, _, .scr _ => fun p => nomatch p
theorem SeesL.lay : ∀ {vs : List V} {ds : List Dat}, SeesL K n H vs ds → plains ds = true → PyData.canLayAll0 (pys ds) = true
  | _, _, .nil => fun _ => rfl
  | _, _, .cons h r => fun p => Bool.and_eq_true_iff.mpr ⟨Sees.lay h (Bool.and_eq_true_iff.mp p).1, SeesL.lay r (Bool.and_eq_true_iff.mp p).2⟩
end
theorem Sees.shaped {v : V} {d : Dat} (h : Sees K n H v d) (c : cmpOk d) : SeqAt.shaped (py d) = true := Bool.and_eq_true_iff.mpr ⟨h.lay c.1, decide_eq_true (Nat.le_trans c.2 (by decide))⟩
mutual
theorem Sees.dp : ∀ {v : V} {d : Dat}, Sees K n H v d → plain d = true → Dp K H v (py d)
  | _, _, .non => fun _ => .non
  | _, _, .bl b => fun _ => .bl b
  | _, _, .int i => fun _ => .int i
  | _, _, .str x l => fun _ => .str x
  | _, _, .tup h l s => fun p => .tup h.sqT (SeesL.dp s p)
  | _, _, .lst h l s => fun p => .lst (.of h) (SeesL.dp s p)
  | _, _, .byt _ _ => fun p => nomatch p
  | _, _, .ty _ => fun p => nomatch p
  | _, _, .ref _ => fun p => nomatch p
  | _, _, .pot _ _ => fun p => nomatch p
  | _, _, .dct _ _ _ => fun p => nomatch p
  | _, _, .obj _ _ _ => fun p => nomatch p
  | _, _, .exc _ _ _ => fun p => nomatch p
  | _, _, .scr _ => fun p => nomatch p
theorem SeesL.dp : ∀ {vs : List V} {ds : List Dat}, SeesL K n H vs ds → plains ds = true → DpAll K H vs (pys ds)
  | _, _, .nil => fun _ => .nil
  | _, _, .cons h r => fun p => .cons (Sees.dp h (Bool.and_eq_true_iff.mp p).1) (SeesL.dp r (Bool.and_eq_true_iff.mp p).2)
end
/-! ### ==, !=, in -/
def gEq : G2 := fun d e P => (cmpOk d ∧ cmpOk e) ∧ P (.bl (eqD d e))
def gNe : G2 := fun d e P => (cmpOk d ∧ cmpOk e) ∧ P (.bl (!eqD d e))
theorem od_eq : OpD K (rEqDD K) gEq := fun n x y d e H Q P g sx sy k => ⟨_, _, sx.dd g.1.1.1, sy.dd g.1.2.1, sx.shaped g.1.1, sy.shaped g.1.2, k _ _ H g.2 (.refl _) (.bl _)⟩
theorem od_ne : OpD K (rNeDD K) gNe := fun n x y d e H Q P g sx sy k => ⟨_, _, sx.dd g.1.1.1, sy.dd g.1.2.1, sx.shaped g.1.1, sy.shaped g.1.2, k _ _ H g.2 (.refl _) (.bl _)⟩
/-! ### numbers -/
def gII (f : Int → Int → Dat) : G2
  | .int i, .int j, P => P (f i j)
  | _, _, _ => False
def gIC (C : Int → Int → Prop) (f : Int → Int → Dat) : G2
  | .int i, .int j, P => C i j ∧ P (f i j)
  | _, _, _ => False
theorem gII_of {f : Int → Int → Dat} {d e : Dat} {P : Dat → Prop} (h : gII f d e P) : ∃ i j, d = .int i ∧ e = .int j ∧ P (f i j) := by
  unfold gII at h
  split at h
  · exact ⟨_, _, rfl, rfl, h⟩
  · exact h.elim
theorem gIC_of {C : Int → Int → Prop} {f : Int → Int → Dat} {d e : Dat} {P : Dat → Prop} (h : gIC C f d e P) : ∃ i j, d = .int i ∧ e = .int j ∧ C i j ∧ P (f i j) := by
  unfold gIC at h
  split at h
  · exact ⟨_, _, rfl, rfl, h.1, h.2⟩
  · exact h.elim
theorem od_II (f : Int → Int → Int) : OpD K (rI0 fun i j => .int (f i j)) (gII fun i j => .int (f i j)) := fun n x y d e H Q P g sx sy k => by
  obtain ⟨i, j, rfl, rfl, p⟩ := gII_of g
  exact ⟨i, j, sx.int_iff, sy.int_iff, k _ _ H p (.refl _) (.int _)⟩
theorem od_IB (f : Int → Int → Bool) : OpD K (rI0 fun i j => .bl (f i j)) (gII fun i j => .bl (f i j)) := fun n x y d e H Q P g sx sy k => by
  obtain ⟨i, j, rfl, rfl, p⟩ := gII_of g
  exact ⟨i, j, sx.int_iff, sy.int_iff, k _ _ H p (.refl _) (.bl _)⟩
theorem od_IC {C : Int → Int → Prop} (f : Int → Int → Int) : OpD K (rI C fun i j => .int (f i j)) (gIC C fun i j => .int (f i j)) := fun n x y d e H Q P g sx sy k => by
  obtain ⟨i, j, rfl, rfl, c, p⟩ := gIC_of g
  exact ⟨i, j, sx.int_iff, sy.int_iff, c, k _ _ H p (.refl _) (.int _)⟩
/-- i * j, one of them small, or both not too great -/
def CMulA (i j : Int) : Prop := CMul i j ∨ CMulW i j
def rMulA : R2 := fun x y H Q => rI CMul (fun i j => .int (i * j)) x y H Q ∨ rI CMulW (fun i j => .int (i * j)) x y H Q
theorem op_mulA : OpR X (binaryOp .Mult) rMulA := op_mul.or op_mulW
theorem od_mulA : OpD K rMulA (gIC CMulA fun i j => .int (i * j)) := fun n x y d e H Q P g sx sy k => by
  obtain ⟨i, j, rfl, rfl, c, p⟩ := gIC_of g
  rcases c with c | c
  · exact .inl ⟨i, j, sx.int_iff, sy.int_iff, c, k _ _ H p (.refl _) (.int _)⟩
  · exact .inr ⟨i, j, sx.int_iff, sy.int_iff, c, k _ _ H p (.refl _) (.int _)⟩
/-- -x -/
def gNeg : Dat → (Dat → Prop) → Prop
  | .int i, P => P (.int (-i))
  | _, _ => False
theorem de_neg {a : Expr} {f : GDE S} {pos : Pos} (h : PE X a (LE K TT E f)) : PE X (.UnaryOp .USub a pos) (LE K TT E (dUn gNeg f)) := (pe_un un_neg h).imp fun σ H Q ⟨ρ, n, P, R, r, q, k, x⟩ => ⟨ρ, n, _, R, r, q, fun d m v H1 z e s => by
  unfold gNeg at z
  split at z
  · exact ⟨_, s.int_iff, k _ m _ H1 z e (.int _)⟩
  · exact z.elim, x⟩
/-! ### + of numbers, texts, tuples, lists -/
theorem strB_append {x y : Str} (hx : StrB x) (hy : StrB y) (l : x.length + y.length ≤ sizeLine) : StrB (x ++ y) := by
  refine ⟨?_, ?_⟩
  · show (x.cps ++ y.cps).size ≤ sizeLine
    rw [Array.size_append]
    exact l
  · show (x.cps ++ y.cps).all _ = true
    rw [Array.all_append, hx.2, hy.2]
    rfl
def gAdd : G2
  | .int i, .int j, P => P (.int (i + j))
  | .str x, .str y, P => x.length + y.length ≤ sizeLine ∧ P (.str (x ++ y))
  | .tup xs, .tup ys, P => xs.length + ys.length ≤ sizeLine ∧ P (.tup (xs ++ ys))
  | .lst xs, .lst ys, P => xs.length + ys.length ≤ sizeLine ∧ P (.lst (xs ++ ys))
  | _, _, _ => False
def rAddA (K : PySem.W.Frag) : R2 := fun x y H Q => rI0 (fun i j => .int (i + j)) x y H Q ∨ (∃ i j, x = .str i ∧ y = .str j ∧ i.length + j.length ≤ sizeLine ∧ Q (.str (i ++ j)) H) ∨ rCatN K x y H Q ∨ rCat x y H Q
theorem op_addAny : OpR X (binaryOp .Add) (rAddA X.K) := op_add.or (op_add_str.or (op_catN.or op_cat))
theorem od_add : OpD K (rAddA K) gAdd := fun n x y d e H Q P g sx sy k => by
  unfold gAdd at g
  split at g
  · exact .inl ⟨_, _, sx.int_iff, sy.int_iff, k _ _ H g (.refl _) (.int _)⟩
  · obtain ⟨rfl, hx⟩ := sx.str_iff
    obtain ⟨rfl, hy⟩ := sy.str_iff
    exact .inr (.inl ⟨_, _, rfl, rfl, g.1, k _ _ H g.2 (.refl _) (.str _ (strB_append hx hy g.1))⟩)
  · obtain ⟨a, xs, rfl, h1, l1, s1⟩ := sx.tup_iffN
    obtain ⟨b, ys, rfl, h2, l2, s2⟩ := sy.tup_iffN
    have hz : xs.length + ys.length ≤ sizeLine := by rw [s1.length, s2.length]; exact g.1
    refine .inr (.inr (.inl ⟨a, b, xs, ys, rfl, rfl, h1.sqT, h2.sqT, hz, fun e1 => ?_, fun _ e2 => ?_, fun _ _ p o hp ho => ?_⟩))
    · subst e1
      cases s1
      exact k _ _ H g.2 (.refl _) (.tup h2 l2 s2)
    · subst e2
      cases s2
      refine k _ _ H g.2 (.refl _) ?_
      rw [List.append_nil]
      exact .tup h1 l1 s1
    · exact k _ _ _ g.2 (.new hp) (.newT hp ho (by simpa using hz) (s1.append s2))
  · obtain ⟨a, xs, rfl, h1, l1, s1⟩ := sx.lst_at
    obtain ⟨b, ys, rfl, h2, l2, s2⟩ := sy.lst_at
    have hz : xs.length + ys.length ≤ sizeLine := by rw [s1.length, s2.length]; exact g.1
    exact .inr (.inr (.inr ⟨a, b, xs, ys, rfl, rfl, h1, h2, hz, fun p hp => k _ _ _ g.2 (.new hp) (.newL hp (by simpa using hz) (s1.append s2))⟩))
  · exact g.elim
/-! ### in -/
def gIn : G2
  | d, .lst ys, P => (cmpOk d ∧ cmpOk (.lst ys)) ∧ P (.bl (ys.any fun y => eqD y d))
  | _, _, _ => False
def gNotIn : G2
  | d, .lst ys, P => (cmpOk d ∧ cmpOk (.lst ys)) ∧ P (.bl (!ys.any fun y => eqD y d))
  | _, _, _ => False
theorem any_pys (ds : List Dat) (d : Dat) : ((pys ds).any fun z => PyData.eqv z (py d)) = ds.any fun y => eqD y d := by
  induction ds with
  | nil => rfl
  | cons x r ih =>
    show (PyData.eqv (py x) (py d) || (pys r).any _) = _
    rw [ih]
    rfl
theorem od_inL : OpD K (rInD K) gIn := fun n x y d e H Q P g sx sy k => by
  unfold gIn at g
  split at g
  · exact ⟨py _, pys _, sx.dp g.1.1.1, sy.dp g.1.2.1, sx.shaped g.1.1, sy.shaped g.1.2, by rw [any_pys]; exact k _ _ H g.2 (.refl _) (.bl _)⟩
  · exact g.elim
theorem od_notInL : OpD K (rNotInD K) gNotIn := fun n x y d e H Q P g sx sy k => by
  unfold gNotIn at g
  split at g
  · exact ⟨py _, pys _, sx.dp g.1.1.1, sy.dp g.1.2.1, sx.shaped g.1.1, sy.shaped g.1.2, by rw [any_pys]; exact k _ _ H g.2 (.refl _) (.bl _)⟩
  · exact g.elim
/-- flat data -/
def flatK : Dat → Bool
  | .non => true | .bl _ => true | .int _ => true | .str _ => true
  | _ => false
def vOf : Dat → V
  | .non => .non | .bl b => .bl b | .int i => .int i | .str x => .str x
  | _ => .non
theorem Sees.flat {v : V} {d : Dat} (h : Sees K n H v d) (f : flatK d = true) : v = vOf d := by
  cases h <;> first | rfl | cases f
theorem SeesL.flat : ∀ {vs : List V} {ds : List Dat}, SeesL K n H vs ds → ds.all flatK = true → vs = ds.map vOf
  | _, _, .nil => fun _ => rfl
  | _, _, .cons h r => fun p => by
    rw [List.all_cons, Bool.and_eq_true] at p
    rw [h.flat p.1, r.flat p.2]
    rfl
theorem flat_vOf {d : Dat} (f : flatK d = true) : flatV (vOf d) = true := by
  cases d <;> first | rfl | cases f
/-- equal flat data -/
def eqF (d e : Dat) : Bool := eqV (vOf d) (vOf e)
/-- in a tuple of flat things -/
def gInT : G2
  | d, .tup ys, P => (flatK d = true ∧ ys.all flatK = true) ∧ P (.bl (ys.any fun y => eqF y d))
  | _, _, _ => False
def gNotInT : G2
  | d, .tup ys, P => (flatK d = true ∧ ys.all flatK = true) ∧ P (.bl (!ys.any fun y => eqF y d))
  | _, _, _ => False
theorem inV_map (d : Dat) (ys : List Dat) : inV (vOf d) (ys.map vOf) = ys.any fun y => eqF y d := by
  unfold inV
  rw [List.any_map]
  rfl
theorem od_inT : OpD K (rIn K false) gInT := fun n x y d e H Q P g sx sy k => by
  unfold gInT at g
  split at g
  · obtain ⟨a, xs, rfl, h1, l1, s1⟩ := sy.tup_iff
    rw [sx.flat g.1.1]
    rw [s1.flat g.1.2] at h1
    exact ⟨a, _, rfl, .inr h1, flat_vOf g.1.1, List.all_eq_true.mpr fun z hz => by
      obtain ⟨w, hw, e⟩ := List.mem_map.mp hz
      rw [← e]
      exact flat_vOf (List.all_eq_true.mp g.1.2 w hw), by
      rw [inV_map]
      exact k _ _ H g.2 (.refl _) (.bl _)⟩
  · exact g.elim
theorem od_notInT : OpD K (rIn K true) gNotInT := fun n x y d e H Q P g sx sy k => by
  unfold gNotInT at g
  split at g
  · obtain ⟨a, xs, rfl, h1, l1, s1⟩ := sy.tup_iff
    rw [sx.flat g.1.1]
    rw [s1.flat g.1.2] at h1
    exact ⟨a, _, rfl, .inr h1, flat_vOf g.1.1, List.all_eq_true.mpr fun z hz => by
      obtain ⟨w, hw, e⟩ := List.mem_map.mp hz
      rw [← e]
      exact flat_vOf (List.all_eq_true.mp g.1.2 w hw), by
      rw [inV_map]
      exact k _ _ H g.2 (.refl _) (.bl _)⟩
  · exact g.elim
/-- a sign in a text -/
def gInS : G2
  | .str ⟨⟨[c]⟩⟩, .str z, P => P (.bl (decide (c ∈ z.cps.toList)))
  | _, _, _ => False
theorem od_inS : OpD K (fun x y H Q => ∃ (c : Nat) (z : Str), x = .str ⟨#[c]⟩ ∧ y = .str z ∧ Q (.bl (decide (c ∈ z.cps.toList))) H) gInS := fun n x y d e H Q P g sx sy k => by
  unfold gInS at g
  split at g
  · exact ⟨_, _, sx.str_iff.1, sy.str_iff.1, k _ _ H g (.refl _) (.bl _)⟩
  · exact g.elim
def rInAny (K : PySem.W.Frag) : R2 := fun x y H Q => rInD K x y H Q ∨ rIn K false x y H Q ∨ ∃ (c : Nat) (z : Str), x = .str ⟨#[c]⟩ ∧ y = .str z ∧ Q (.bl (decide (c ∈ z.cps.toList))) H
theorem op_inAny (hu : X.A.units + 65 < cLine) : OpR X (compareOp .In) (rInAny X.K) := (op_inD hu).or (op_in_seq.or op_in_sign)
def gInAny : G2 := fun d e P => gIn d e P ∨ gInT d e P ∨ gInS d e P
theorem od_inAny : OpD K (rInAny K) gInAny := fun n x y d e H Q P g sx sy k => by
  rcases g with g | g | g
  · exact .inl (od_inL n x y d e H Q P g sx sy k)
  · exact .inr (.inl (od_inT n x y d e H Q P g sx sy k))
  · exact .inr (.inr (od_inS n x y d e H Q P g sx sy k))
def rNotInAny (K : PySem.W.Frag) : R2 := fun x y H Q => rNotInD K x y H Q ∨ rIn K true x y H Q
theorem op_notInAny (hu : X.A.units + 65 < cLine) : OpR X (compareOp .NotIn) (rNotInAny X.K) := (op_notInD hu).or op_notIn_seq
def gNotInAny : G2 := fun d e P => gNotIn d e P ∨ gNotInT d e P
theorem od_notInAny : OpD K (rNotInAny K) gNotInAny := fun n x y d e H Q P g sx sy k => by
  rcases g with g | g
  · exact .inl (od_notInL n x y d e H Q P g sx sy k)
  · exact .inr (od_notInT n x y d e H Q P g sx sy k)
/-! ### built-in functions -/
def lenD : Dat → (Nat → Prop) → Prop
  | .str x, P => P x.length
  | .byt x, P => P x.size
  | .tup xs, P => P xs.length
  | .lst xs, P => P xs.length
  | .scr ns, P => P ns.length
  | _, _ => False
def gLen : GA
  | [d], P => lenD d fun i => P (.int (i : Nat))
  | _, _ => False
theorem SeesL.one {vs : List V} {d : Dat} (s : SeesL K n H vs [d]) : ∃ v, vs = [v] ∧ Sees K n H v d := by
  cases s with
  | cons h r => cases r; exact ⟨_, rfl, h⟩
theorem SeesL.two {vs : List V} {d e : Dat} (s : SeesL K n H vs [d, e]) : ∃ v u, vs = [v, u] ∧ Sees K n H v d ∧ Sees K n H u e := by
  cases s with
  | cons h r =>
    obtain ⟨u, rfl, h2⟩ := r.one
    exact ⟨_, _, rfl, h, h2⟩
theorem cd_len : CallD K (fun xs H Q => ∃ x n, xs = [x] ∧ LenV K x H n ∧ Q (.int n) H) gLen := fun n vs ds H Q P g s k => by
  unfold gLen at g
  split at g
  · obtain ⟨v, rfl, w⟩ := s.one
    unfold lenD at g
    split at g
    · obtain ⟨rfl, h⟩ := w.str_iff
      exact ⟨_, _, rfl, ⟨h.1, rfl⟩, k _ _ H g (.refl _) (.int _)⟩
    · obtain ⟨rfl, h⟩ := w.byt_iff
      exact ⟨_, _, rfl, ⟨h, rfl⟩, k _ _ H g (.refl _) (.int _)⟩
    · obtain ⟨a, xs, rfl, h1, l1, s1⟩ := w.tup_iff
      exact ⟨_, _, rfl, .inr ⟨xs, h1, rfl⟩, k _ _ H g (.refl _) (by rw [s1.length]; exact .int _)⟩
    · obtain ⟨a, xs, rfl, h1, l1, s1⟩ := w.lst_iff
      exact ⟨_, _, rfl, .inl ⟨xs, h1, rfl⟩, k _ _ H g (.refl _) (by rw [s1.length]; exact .int _)⟩
    · cases w with
      | scr h1 => exact ⟨_, _, rfl, .inl ⟨_, h1, rfl⟩, k _ _ H g (.refl _) (by rw [List.length_map]; exact .int _)⟩
    · exact g.elim
  · exact g.elim
/-- all, any of a list of truths -/
def bools : List Dat → (List Bool → Prop) → Prop
  | [], P => P []
  | .bl b :: r, P => bools r fun bs => P (b :: bs)
  | _, _ => False
theorem bools_of : ∀ {ds : List Dat} {P : List Bool → Prop}, bools ds P → ∃ bs, ds = bs.map Dat.bl ∧ P bs
  | [], _, h => ⟨[], rfl, h⟩
  | .bl b :: r, _, h => by
    obtain ⟨bs, rfl, p⟩ := bools_of (ds := r) h
    exact ⟨b :: bs, rfl, p⟩
theorem bools_map (bs : List Bool) {P : List Bool → Prop} (h : P bs) : bools (bs.map Dat.bl) P := by
  induction bs generalizing P with
  | nil => exact h
  | cons b r ih => exact ih h
theorem SeesL.bls : ∀ {vs : List V} {bs : List Bool}, SeesL K n H vs (bs.map Dat.bl) → vs = bs.map V.bl := fun {vs bs} s => by
  induction bs generalizing vs with
  | nil => cases s; rfl
  | cons b r ih =>
    cases s with
    | cons h t => rw [h.bl_iff, ih t]; rfl
def gAll : GA
  | [.lst ds], P => bools ds fun bs => P (.bl (bs.all id))
  | _, _ => False
def gAny : GA
  | [.lst ds], P => bools ds fun bs => P (.bl (bs.any id))
  | _, _ => False
theorem cd_all : CallD K (rAll K) gAll := fun n vs ds H Q P g s k => by
  unfold gAll at g
  split at g
  · obtain ⟨v, rfl, w⟩ := s.one
    obtain ⟨bs, rfl, p⟩ := bools_of g
    obtain ⟨a, xs, rfl, h1, l1, s1⟩ := w.lst_iff
    rw [s1.bls] at h1
    exact ⟨a, bs, rfl, h1, k _ _ H p (.refl _) (.bl _)⟩
  · exact g.elim
theorem cd_any : CallD K (L2.rAny K) gAny := fun n vs ds H Q P g s k => by
  unfold gAny at g
  split at g
  · obtain ⟨v, rfl, w⟩ := s.one
    obtain ⟨bs, rfl, p⟩ := bools_of g
    obtain ⟨a, xs, rfl, h1, l1, s1⟩ := w.lst_iff
    rw [s1.bls] at h1
    exact ⟨a, bs, rfl, h1, k _ _ H p (.refl _) (.bl _)⟩
  · exact g.elim
end
end Aim

namespace Aim
open PySem PySem.Spec PyProof.Rows L2
open LamX (TabB Tabs CodeO)
open Stt (cnt sto)
variable {S : Type} [Stt S]
section
variable {K : PySem.W.Frag} {TT : List (Addr × Str)} {E : XK} {X : Cx} {n : S} {H H' : Hp}
/-! ### subscripts -/
theorem atI_sees {vs : List V} {ds : List Dat} {i : Int} {d : Dat} (s : SeesL K n H vs ds) (h : atI ds i = some d) : ∃ v, atI vs i = some v ∧ Sees K n H v d := by
  unfold atI at h ⊢
  rw [s.length]
  cases e : ixN ds.length i with
  | none => rw [e] at h; cases h
  | some j =>
    rw [e] at h
    exact s.getD h
def optD {α : Type} : Option α → (α → Prop) → Prop
  | some d, P => P d
  | none, _ => False
theorem optD_of {α : Type} {o : Option α} {P : α → Prop} (h : optD o P) : ∃ d, o = some d ∧ P d := by
  cases o with
  | some d => exact ⟨d, rfl, h⟩
  | none => exact h.elim
def gIx : G2
  | .lst ds, .int i, P => optD (atI ds i) P
  | .tup ds, .int i, P => optD (atI ds i) P
  | .str z, .int i, P => optD (atI z.cps.toList i) fun c => P (.str ⟨#[c]⟩)
  | .scr ns, .int i, P => optD (atI ns i) fun z => P (.int z)
  | _, _, _ => False
theorem strB_one {z : Str} (h : StrB z) {c : Nat} (m : c ∈ z.cps.toList) : StrB ⟨#[c]⟩ := by
  refine ⟨by show 1 ≤ sizeLine; decide, ?_⟩
  have q := h.2
  rw [Array.all_eq_true'] at q
  simpa using q c (by simpa using m)
theorem atI_mem {α : Type} {xs : List α} {i : Int} {c : α} (h : atI xs i = some c) : c ∈ xs := by
  unfold atI at h
  cases e : ixN xs.length i with
  | none => rw [e] at h; cases h
  | some j =>
    rw [e] at h
    exact List.mem_of_getElem? h
theorem atI_map {ns : List Int} {i c : Int} (h : atI ns i = some c) : atI (ns.map V.int) i = some (.int c) := by
  unfold atI at h ⊢
  rw [List.length_map]
  cases e : ixN ns.length i with
  | none => rw [e] at h; cases h
  | some j =>
    rw [e] at h
    show (ns.map V.int)[j]? = _
    rw [List.getElem?_map]
    have h : ns[j]? = some c := h
    rw [h]
    rfl
theorem od_ix : OpD K (rIx K) gIx := fun n x y d e H Q P g sx sy k => by
  unfold gIx at g
  split at g
  · obtain ⟨z, e1, p⟩ := optD_of g
    obtain ⟨a, xs, rfl, h1, l1, s1⟩ := sx.lst_iff
    obtain ⟨v, e2, s2⟩ := atI_sees s1 e1
    exact .inl ⟨a, xs, _, v, rfl, sy.int_iff, h1, e2, k _ v H p (.refl _) s2⟩
  · obtain ⟨z, e1, p⟩ := optD_of g
    obtain ⟨a, xs, rfl, h1, l1, s1⟩ := sx.tup_iff
    obtain ⟨v, e2, s2⟩ := atI_sees s1 e1
    exact .inr (.inl ⟨a, xs, _, v, rfl, sy.int_iff, h1, e2, k _ v H p (.refl _) s2⟩)
  · obtain ⟨c, e1, p⟩ := optD_of g
    obtain ⟨rfl, hz⟩ := sx.str_iff
    exact .inr (.inr ⟨_, _, c, rfl, sy.int_iff, hz.1, e1, k _ _ H p (.refl _) (.str _ (strB_one hz (atI_mem e1)))⟩)
  · obtain ⟨c, e1, p⟩ := optD_of g
    cases sx with
    | scr h1 => exact .inl ⟨_, _, _, .int c, rfl, sy.int_iff, h1, atI_map e1, k _ _ H p (.refl _) (.int _)⟩
  · exact g.elim
/-! ### slices -/
def cutD (xs : List Dat) (lo hi : Option Int) : List Dat := (xs.drop (HT.sIx xs.length 0 lo)).take (HT.sIx xs.length xs.length hi - HT.sIx xs.length 0 lo)
theorem cut_sees {vs : List V} {ds : List Dat} (s : SeesL K n H vs ds) (lo hi : Option Int) : SeesL K n H (cutV vs lo hi) (cutD ds lo hi) := by
  unfold cutV cutD
  rw [s.length]
  exact (s.drop _).take _
def gSl : GS
  | .lst ds, lo, hi, P => P (.lst (cutD ds lo hi))
  | .tup ds, lo, hi, P => P (.tup (cutD ds lo hi))
  | .str z, lo, hi, P => P (.str (cutS z lo hi))
  | _, _, _, _ => False
theorem cut_whole {α : Type} (xs : List α) (lo hi : Option Int) (h : HT.sIx xs.length 0 lo = 0 ∧ HT.sIx xs.length xs.length hi = xs.length) : (xs.drop (HT.sIx xs.length 0 lo)).take (HT.sIx xs.length xs.length hi - HT.sIx xs.length 0 lo) = xs := by
  rw [h.1, h.2]
  simp
theorem strB_cut {z : Str} (h : StrB z) (lo hi : Option Int) : StrB (cutS z lo hi) := by
  refine ⟨Nat.le_trans (cutS_length z lo hi) h.1, ?_⟩
  have q := h.2
  rw [Array.all_eq_true'] at q ⊢
  intro c hc
  refine q c ?_
  unfold cutS at hc
  simp only [List.mem_toArray] at hc
  have := List.mem_of_mem_drop (List.mem_of_mem_take hc)
  simpa using this
def rSlAny (K : PySem.W.Frag) : V → Option Int → Option Int → Hp → VK → Prop := fun x lo hi H Q => rSlL K x lo hi H Q ∨ rSlN K x lo hi H Q ∨ rSlS x lo hi H Q
theorem slOr {r r' : V → Option Int → Option Int → Hp → VK → Prop} (h : L2.SlR X r) (h' : L2.SlR X r') : L2.SlR X fun x lo hi H Q => r x lo hi H Q ∨ r' x lo hi H Q := by
  intro pins s σ H x v vl vu lo hi sl Q I rx hs pl pu q
  rcases q with q | q
  · exact h pins s σ H x v vl vu lo hi sl Q I rx hs pl pu q
  · exact h' pins s σ H x v vl vu lo hi sl Q I rx hs pl pu q
theorem sl_any : L2.SlR X (rSlAny X.K) := slOr sl_list (slOr sl_tupN sl_str)
theorem sd_any : SlD K (rSlAny K) gSl := fun n x d lo hi H Q P g sx k => by
  unfold gSl at g
  split at g
  · obtain ⟨a, xs, rfl, h1, l1, s1⟩ := sx.lst_iff
    exact .inl ⟨a, xs, rfl, h1, fun p hp => k _ _ _ g (.new hp) (.newL hp (Nat.le_trans (cutV_length xs lo hi) l1) (cut_sees s1 lo hi))⟩
  · obtain ⟨a, xs, rfl, h1, l1, s1⟩ := sx.tup_iffN
    refine .inr (.inl ⟨a, xs, rfl, h1.sqT, fun w => ?_, fun _ p o hp ho => k _ _ _ g (.new hp) (.newT hp ho (Nat.le_trans (cutV_length xs lo hi) l1) (cut_sees s1 lo hi))⟩)
    refine k _ _ H g (.refl _) ?_
    have e : cutD _ lo hi = _ := cut_whole _ lo hi (by rw [← s1.length]; exact w)
    rw [e]
    exact .tup h1 l1 s1
  · obtain ⟨rfl, hz⟩ := sx.str_iff
    exact .inr (.inr ⟨_, rfl, hz.1, k _ _ H g (.refl _) (.str _ (strB_cut hz lo hi))⟩)
  · exact g.elim
theorem de_sl {a : Expr} {lo hi : Option Expr} {fa : GDE S} {l u : GDO S} {p2 pos : Pos} (ha : PE X a (LE X.K TT E fa)) (hl : PO X lo (LO X.K TT E l)) (hu : PO X hi (LO X.K TT E u)) : PE X (.Subscript a (.Slice lo hi none p2) pos) (LE X.K TT E (dSl gSl fa l u)) := (pe_slice sl_any ha hl hu).imp fun _ _ _ h => h.sl sd_any
/-! ### conversions -/
def gInt : GA
  | [.int i], P => P (.int i)
  | [.bl b], P => P (.int (if b then 1 else 0))
  | [.str a], P => a.length ≤ 640 ∧ optD (PySem.intText? a) fun i => P (.int i)
  | _, _ => False
def rIntA : List V → Hp → VK → Prop := fun xs H Q => ((∃ i, xs = [.int i] ∧ Q (.int i) H) ∨ ∃ k, xs = [.bl k] ∧ Q (.int (if k then 1 else 0)) H) ∨ ∃ a n, xs = [.str a] ∧ PySem.intText? a = some n ∧ a.length ≤ 640 ∧ Q (.int n) H
theorem callOr {f : Value} {r r' : List V → Hp → VK → Prop} (h : CallR X f r) (h' : CallR X f r') : CallR X f fun xs H Q => r xs H Q ∨ r' xs H Q := by
  intro pins s σ H xs us Q I rx q
  rcases q with q | q
  · exact h pins s σ H xs us Q I rx q
  · exact h' pins s σ H xs us Q I rx q
theorem call_intA : CallR X (.type "int") rIntA := callOr call_int1 call_int_str
theorem cd_int : CallD K rIntA gInt := fun n vs ds H Q P g s k => by
  unfold gInt at g
  split at g
  · obtain ⟨v, rfl, w⟩ := s.one
    exact .inl (.inl ⟨_, by rw [w.int_iff], k _ _ H g (.refl _) (.int _)⟩)
  · obtain ⟨v, rfl, w⟩ := s.one
    exact .inl (.inr ⟨_, by rw [w.bl_iff], k _ _ H g (.refl _) (.int _)⟩)
  · obtain ⟨v, rfl, w⟩ := s.one
    obtain ⟨i, e, p⟩ := optD_of g.2
    exact .inr ⟨_, i, by rw [w.str_iff.1], e, g.1, k _ _ H p (.refl _) (.int _)⟩
  · exact g.elim
def gAbs : GA
  | [.int i], P => P (.int (if i < 0 then -i else i))
  | _, _ => False
theorem cd_abs : CallD K (fun xs H Q => ∃ i, xs = [.int i] ∧ Q (.int (if i < 0 then -i else i)) H) gAbs := fun n vs ds H Q P g s k => by
  unfold gAbs at g
  split at g
  · obtain ⟨v, rfl, w⟩ := s.one
    exact ⟨_, by rw [w.int_iff], k _ _ H g (.refl _) (.int _)⟩
  · exact g.elim
def g2I (f : Int → Int → Int) : GA
  | [.int i, .int j], P => P (.int (f i j))
  | _, _ => False
theorem cd_2I (f : Int → Int → Int) : CallD K (fun xs H Q => ∃ i j, xs = [.int i, .int j] ∧ Q (.int (f i j)) H) (g2I f) := fun n vs ds H Q P g s k => by
  unfold g2I at g
  split at g
  · obtain ⟨v, u, rfl, w1, w2⟩ := s.two
    exact ⟨_, _, by rw [w1.int_iff, w2.int_iff], k _ _ H g (.refl _) (.int _)⟩
  · exact g.elim
/-- str of a number (of a text: itself) -/
def gStr : GA
  | [.int i], P => i.natAbs.log2 < 1920 ∧ StrB (toString i : Str) ∧ P (.str (toString i))
  | _, _ => False
theorem cd_str : CallD K (fun xs H Q => ∃ i, xs = [.int i] ∧ i.natAbs.log2 < 1920 ∧ Q (.str (toString i)) H) gStr := fun n vs ds H Q P g s k => by
  unfold gStr at g
  split at g
  · obtain ⟨v, rfl, w⟩ := s.one
    exact ⟨_, by rw [w.int_iff], g.1, k _ _ H g.2.2 (.refl _) (.str _ g.2.1)⟩
  · exact g.elim
/-- list(..) of a list or a tuple: a new list -/
def gListF (f : GDE S) : GDA S := fun ρ n P R => f ρ n (fun d m => match d with
  | .lst ds => P ds m
  | .tup ds => P ds m
  | _ => False) R
theorem lf_list {f : GDE S} {σ : L2.St} {H : Hp} {Q : VK} (h : LF K TT E (gListF f) σ H Q) : tCB (fun xs H Q => ∃ p ys, xs = [.ref p] ∧ (SqL K H p ys ∨ SqT K H p ys) ∧ ∀ l, H l = none → Q (.ref l) (upd H l (.lst ys))) (tCons (LE K TT E f) tNil) σ H Q := by
  obtain ⟨ρ, n, P, R, r, q, k, x⟩ := h
  refine ⟨ρ, n, _, R, r, q, fun d m v H1 z e s => ?_, x⟩
  split at z
  · obtain ⟨a, xs, rfl, h1, l1, s1⟩ := s.lst_iff
    exact ⟨a, xs, rfl, .inl h1, fun l hl => lf_grow k z e r.st hl l1 s1⟩
  · obtain ⟨a, xs, rfl, h1, l1, s1⟩ := s.tup_iff
    exact ⟨a, xs, rfl, .inr h1, fun l hl => lf_grow k z e r.st hl l1 s1⟩
  · exact z.elim
/-- a display is a new list -/
def gDisp (fr : GDA S) : GDA S := fun ρ n P R => fr ρ n (fun ds m => ds.length ≤ sizeLine ∧ P ds m) R
theorem lf_disp {fr : GDA S} {σ : L2.St} {H : Hp} {Q : VK} (h : LF K TT E (gDisp fr) σ H Q) : tLst (LA K TT E fr) σ H Q := by
  obtain ⟨ρ, n, P, R, r, q, k, x⟩ := h
  exact ⟨ρ, n, _, R, r, q, fun ds m vs H1 z e s => ⟨by rw [s.length]; exact z.1, fun l hl => lf_grow k z.2 e r.st hl (by rw [s.length]; exact z.1) s⟩, x⟩
/-- tuple(..) -/
def gTupOf : GA
  | [.lst ds], P => P (.tup ds)
  | [.tup ds], P => P (.tup ds)
  | _, _ => False
theorem cd_tup : CallD K (fun xs H Q => ∃ p ys, xs = [.ref p] ∧ ((SqL K H p ys ∧ NewT H Q ys) ∨ (SqT K H p ys ∧ Q (.ref p) H))) gTupOf := fun n vs ds H Q P g s k => by
  unfold gTupOf at g
  split at g
  · obtain ⟨v, rfl, w⟩ := s.one
    obtain ⟨a, xs, rfl, h1, l1, s1⟩ := w.lst_iff
    exact ⟨a, xs, rfl, .inl ⟨h1, fun l o hl ho => k _ _ _ g (.new hl) (.newT hl ho l1 s1)⟩⟩
  · obtain ⟨v, rfl, w⟩ := s.one
    obtain ⟨a, xs, rfl, h1, l1, s1⟩ := w.tup_iffN
    exact ⟨a, xs, rfl, .inr ⟨h1.sqT, k _ _ H g (.refl _) (.tup h1 l1 s1)⟩⟩
  · exact g.elim
/-! ### methods of texts, of tuples -/
def isStr : Dat → Bool
  | .str _ => true
  | _ => false
theorem ty_str : TyD K "str" isStr := fun n x d H s e => by
  cases s <;> first | rfl | cases e
def txts : List Dat → (List Str → Prop) → Prop
  | [], P => P []
  | .str b :: r, P => txts r fun bs => P (b :: bs)
  | _, _ => False
theorem txts_of : ∀ {ds : List Dat} {P : List Str → Prop}, txts ds P → ∃ bs, ds = bs.map Dat.str ∧ P bs
  | [], _, h => ⟨[], rfl, h⟩
  | .str b :: r, _, h => by
    obtain ⟨bs, rfl, p⟩ := txts_of (ds := r) h
    exact ⟨b :: bs, rfl, p⟩
theorem txts_map (bs : List Str) {P : List Str → Prop} (h : P bs) : txts (bs.map Dat.str) P := by
  induction bs generalizing P with
  | nil => exact h
  | cons b r ih => exact ih h
theorem SeesL.txts : ∀ {vs : List V} {bs : List Str}, SeesL K n H vs (bs.map Dat.str) → vs = bs.map V.str ∧ ∀ b ∈ bs, StrB b := fun {vs bs} s => by
  induction bs generalizing vs with
  | nil => cases s; exact ⟨rfl, fun _ z => nomatch z⟩
  | cons b r ih =>
    cases s with
    | cons h t =>
      obtain ⟨e1, e2⟩ := ih t
      rw [h.str_iff.1, e1]
      refine ⟨rfl, fun c hc => ?_⟩
      rcases List.mem_cons.mp hc with z | z
      · rw [z]
        exact h.str_iff.2
      · exact e2 c z
theorem SeesL.ofStrs {bs : List Str} (h : ∀ b ∈ bs, StrB b) : SeesL K n H (bs.map V.str) (bs.map Dat.str) := by
  induction bs with
  | nil => exact .nil
  | cons b r ih => exact .cons (.str b (h b (by simp))) (ih fun c hc => h c (by simp [hc]))
/-- sep.join(texts) -/
def gJoin : GM
  | .str a, [.lst ds], P => txts ds fun bs => (bs.map (·.length)).sum + bs.length * a.length ≤ 16777216 ∧ StrB (Txt.join a bs) ∧ P (.str (Txt.join a bs))
  | .str a, [.tup ds], P => txts ds fun bs => (bs.map (·.length)).sum + bs.length * a.length ≤ 16777216 ∧ StrB (Txt.join a bs) ∧ P (.str (Txt.join a bs))
  | _, _, _ => False
theorem md_join : MethD K "str" (fun x xs H Q => ∃ a p, ∃ ys : List Str, x = .str a ∧ xs = [.ref p] ∧ (SqL K H p (ys.map V.str) ∨ SqT K H p (ys.map V.str)) ∧ (ys.map (·.length)).sum + ys.length * a.length ≤ 16777216 ∧ Q (.str (Txt.join a ys)) H) gJoin := fun n x d vs ds H Q P g sx s k => by
  unfold gJoin at g
  split at g
  · obtain ⟨v, rfl, w⟩ := s.one
    obtain ⟨bs, rfl, p⟩ := txts_of g
    obtain ⟨a, xs, rfl, h1, l1, s1⟩ := w.lst_iff
    rw [s1.txts.1] at h1
    exact ⟨_, a, bs, sx.str_iff.1, rfl, .inl h1, p.1, k _ _ H p.2.2 (.refl _) (.str _ p.2.1)⟩
  · obtain ⟨v, rfl, w⟩ := s.one
    obtain ⟨bs, rfl, p⟩ := txts_of g
    obtain ⟨a, xs, rfl, h1, l1, s1⟩ := w.tup_iff
    rw [s1.txts.1] at h1
    exact ⟨_, a, bs, sx.str_iff.1, rfl, .inr h1, p.1, k _ _ H p.2.2 (.refl _) (.str _ p.2.1)⟩
  · exact g.elim
/-- s.split(sep) -/
def gSplit : GM
  | .str a, [.str b], P => (b.length == 0) = false ∧ a.length + 2 ≤ sizeLine ∧ (Txt.split a b).length ≤ sizeLine ∧ (∀ z ∈ Txt.split a b, StrB z) ∧ P (.lst ((Txt.split a b).map Dat.str))
  | _, _, _ => False
theorem md_split : MethD K "str" (fun x xs H Q => ∃ a b, x = .str a ∧ xs = [.str b] ∧ (b.length == 0) = false ∧ a.length + 2 ≤ sizeLine ∧ rNewStrs (Txt.split a b) H Q) gSplit := fun n x d vs ds H Q P g sx s k => by
  unfold gSplit at g
  split at g
  · obtain ⟨v, rfl, w⟩ := s.one
    refine ⟨_, _, sx.str_iff.1, by rw [w.str_iff.1], g.1, g.2.1, fun p hp => k _ _ _ g.2.2.2.2 (.new hp) (.newL hp (by simpa using g.2.2.1) (SeesL.ofStrs g.2.2.2.1))⟩
  · exact g.elim
def gStarts : GM
  | .str a, [.str b], P => P (.bl (Txt.startswith a b))
  | _, _, _ => False
theorem md_starts : MethD K "str" (fun x xs H Q => ∃ a b, x = .str a ∧ xs = [.str b] ∧ Q (.bl (Txt.startswith a b)) H) gStarts := fun n x d vs ds H Q P g sx s k => by
  unfold gStarts at g
  split at g
  · obtain ⟨v, rfl, w⟩ := s.one
    exact ⟨_, _, sx.str_iff.1, by rw [w.str_iff.1], k _ _ H g (.refl _) (.bl _)⟩
  · exact g.elim
/-! ### isinstance of plain data -/
/-- the built-in type, where it is one -/
def tyK : Dat → Option String
  | .non => some "NoneType" | .bl _ => some "bool" | .int _ => some "int" | .str _ => some "str" | .byt _ => some "bytes"
  | .tup _ => some "tuple" | .lst _ => some "list" | .dct _ _ => some "dict"
  | _ => none
theorem Sees.tyx {v : V} {d : Dat} {t : String} (s : Sees K n H v d) (h : tyK d = some t) : TyX K H v (.type t) := by
  cases s with
  | non => cases h; exact .base .non
  | bl b => cases h; exact .base (.bl b)
  | int i => cases h; exact .base (.int i)
  | str x l => cases h; exact .base (.str x)
  | byt x l => cases h; exact .byt x
  | tup h1 l s1 => cases h; exact tyX_sqT h1.sqT
  | lst h1 l s1 => cases h; exact .base (.lst h1)
  | dct h1 l s1 =>
    cases h
    rcases h1 with h1 | ⟨o, h1⟩
    · exact .base (.dK h1)
    · exact .fDict h1
  | _ => cases h
def isT (T : String) (t : String) : Bool := t == T || (T == "int" && t == "bool")
theorem kit_T {T t : String} (hT : T = "int" ∨ T = "bool" ∨ T = "str" ∨ T = "tuple" ∨ T = "list" ∨ T = "bytes" ∨ T = "dict") (ht : t = "NoneType" ∨ t = "bool" ∨ t = "int" ∨ t = "str" ∨ t = "bytes" ∨ t = "tuple" ∨ t = "list" ∨ t = "dict") : PySem.W.kitOne K (.type t) (.type T) = some (isT T t) := by
  rcases hT with h | h | h | h | h | h | h <;> subst h <;> rcases ht with h | h | h | h | h | h | h | h <;> subst h <;> exact kit_ty (by decide +kernel)
theorem tyK_mem {d : Dat} {t : String} (h : tyK d = some t) : t = "NoneType" ∨ t = "bool" ∨ t = "int" ∨ t = "str" ∨ t = "bytes" ∨ t = "tuple" ∨ t = "list" ∨ t = "dict" := by
  cases d <;> simp [tyK] at h <;> subst h <;> simp
def gIsT (T : String) : GA
  | [d, .ty T'], P => T' = T ∧ optD (tyK d) fun t => P (.bl (isT T t))
  | _, _ => False
theorem cd_isT {T : String} (hT : T = "int" ∨ T = "bool" ∨ T = "str" ∨ T = "tuple" ∨ T = "list" ∨ T = "bytes" ∨ T = "dict") : CallD K (rIsi K) (gIsT T) := fun n vs ds H Q P g s k => by
  unfold gIsT at g
  split at g
  · obtain ⟨v, u, rfl, w1, w2⟩ := s.two
    obtain ⟨rfl, g⟩ := g
    obtain ⟨t, e, p⟩ := optD_of g
    rw [w2.ty_iff]
    exact ⟨v, _, _, _, _, rfl, .ty _, w1.tyx e, kit_T hT (tyK_mem e), k _ _ H p (.refl _) (.bl _)⟩
  · exact g.elim
/-- isinstance(x, (tuple, list)) -/
def gTL : Dat → (Dat → Prop) → Prop := fun d P => optD (tyK d) fun t => P (.bl (t == "tuple" || t == "list"))
theorem de_isTL {a : Expr} {f : GDE S} {x1 : Nat} {p1 p2 p3 p4 pos : Pos} (h : PE X (.Call (.Name "isinstance" p1) [a, .Tuple [.Name "tuple" p2, .Name "list" p3] x1 p4] [] pos) (tCB (rIsiT X.K) (tCons (LE X.K TT E f) (tCons (tTup (tCons (tC (.ty "tuple")) (tCons (tC (.ty "list")) tNil))) tNil)))) :
    PE X (.Call (.Name "isinstance" p1) [a, .Tuple [.Name "tuple" p2, .Name "list" p3] x1 p4] [] pos) (LE X.K TT E (dUn gTL f)) := h.imp fun σ H Q ⟨ρ, n, P, R, r, q, k, x⟩ => by
  refine ⟨ρ, n, _, R, r, q, fun d m v H1 z e s => ⟨by show 2 ≤ sizeLine; decide, fun p hp => ?_⟩, x⟩
  obtain ⟨t, e1, z⟩ := optD_of z
  have g : Grow H1 (upd H1 p (.tup [.ty "tuple", .ty "list"])) := .new hp
  refine ⟨v, p, _, _, [.type "tuple", .type "list"], (t == "tuple" || t == "list"), rfl, upd_same, .cons (.ty _) (.cons (.ty _) .nil), (s.grow g).tyx e1, ?_, k _ m _ _ z (e.trans (.grow g)) (.bl _)⟩
  have ht := tyK_mem e1
  have e2 : isT "tuple" t = (t == "tuple") := by rcases ht with h | h | h | h | h | h | h | h <;> subst h <;> rfl
  have e3 : isT "list" t = (t == "list") := by rcases ht with h | h | h | h | h | h | h | h <;> subst h <;> rfl
  refine kitAny_cons (kit_T (T := "tuple") (by simp) ht) (fun w => ?_) fun w => by rw [← e2, w, Bool.true_or]
  refine kitAny_cons (kit_T (T := "list") (by simp) ht) (fun w2 => ?_) fun w2 => by rw [← e3, w2, Bool.or_true]
  rw [e2] at w
  rw [e3] at w2
  rw [w, w2]
  rfl
/-! ### errors -/
def dRaise (C : Addr) (f : GDE S) : GDS S := fun P ρ n => f ρ n (fun d m => P.ex C d m) P.ex
theorem ds_raise {C : Addr} {st : Stmt} {f : GDE S} (h : PS X st (fun _ σ H => tMkA C (LE K TT E f) σ H fun cls d H' => E cls d H')) : PS X st (LS K TT E (dRaise C f)) := h.imp fun D σ H ⟨ρ, n, P, r, q, k⟩ => ⟨ρ, n, _, P.ex, r, q, fun d m v H1 z e s dd hd => k.ex.ex C d m dd v _ z (e.toFra.trans (.grow (.new hd))) upd_same (s.grow (.new hd)), k.ex.toE⟩
/-- the value of a caught error -/
def gVal (C : Addr) : Dat → (Dat → Prop) → Prop
  | .exc C' d, P => C' = C ∧ P d
  | _, _ => False
theorem de_val {C D f0 : Addr} {e : Expr} {f : GDE S} (c : AimC X.K f0 D C) (h : PE X e (tXcv X.K (LE X.K TT E f))) : PE X e (LE X.K TT E (dUn (gVal C) f)) := h.imp fun σ H Q ⟨ρ, n, P, R, r, q, k, x⟩ => ⟨ρ, n, _, R, r, q, fun d m v H1 z e s => by
  unfold gVal at z
  split at z
  · obtain ⟨rfl, z⟩ := z
    cases s with
    | exc h1 h2 h3 => exact ⟨_, _, _, _, _, _, rfl, h1, c, h2, k _ m _ H1 z e h3⟩
  · exact z.elim, x⟩
/-- isinstance(e, C) of None or an error of the package -/
def gIsX (K : PySem.W.Frag) (C : Addr) : Dat → (Dat → Prop) → Prop
  | .non, P => PySem.W.kitOne K (.type "NoneType") (.ref C) = some false ∧ P (.bl false)
  | .exc C' _, P => (∃ f D, AimC K f D C') ∧ ∃ b, PySem.W.kitOne K (.ref C') (.ref C) = some b ∧ P (.bl b)
  | _, _ => False
theorem call_isiX : CallR X (.builtin "isinstance") (fun xs H Q => rIsi X.K xs H Q ∨ rIsX X.K xs H Q) := callOr call_isi call_isX
theorem de_isX {C : Addr} {e : Expr} {f : GDE S} (h : PE X e (tCB (fun xs H Q => rIsi X.K xs H Q ∨ rIsX X.K xs H Q) (tCons (LE X.K TT E f) (tCons (tC (.ref C)) tNil)))) : PE X e (LE X.K TT E (dUn (gIsX X.K C) f)) := h.imp fun σ H Q ⟨ρ, n, P, R, r, q, k, x⟩ => ⟨ρ, n, _, R, r, q, fun d m v H1 z e s => by
  unfold gIsX at z
  split at z
  · rw [s.non_iff]
    exact .inl ⟨.non, .ref C, _, _, false, rfl, .own C, .base .non, z.1, k _ m _ H1 z.2 e (.bl _)⟩
  · obtain ⟨⟨f0, D, c⟩, b, hb, z⟩ := z
    cases s with
    | exc h1 h2 h3 => exact .inr ⟨_, _, f0, D, _, _, _, b, rfl, h1, c, ⟨_, _, rfl, h2⟩, .own C, hb, k _ m _ H1 z e (.bl _)⟩
  · exact z.elim, x⟩
/-- _law_caught(lambda: e): None, or the error that e lets out -/
def dCaught (K : PySem.W.Frag) (AE : Addr) (f : GDE S) : GDE S := fun ρ n P R => f ρ n (fun _ m => P .non m) fun C d m => PySem.W.exmOne K (.ref C) (.ref AE) = some true ∧ P (.exc C d) m
theorem de_caught {AE : Addr} {e : Expr} {f : GDE S} (h : PE X e (LamX.tLam TT (TTc X.K AE) (fun E => LE X.K TT E f))) : PE X e (LE X.K TT E (dCaught X.K AE f)) := h.imp fun σ H Q ⟨ρ, n, P, R, r, q, k, x⟩ => by
  refine ⟨x.tab, fun H1 ext tab1 => ?_⟩
  have e0 : Frb n H n H1 := ⟨Nat.le_refl _, fun b o e p => ext b o e p.2.2, fun b j l e => ⟨j, l, ext b _ e fun _ z => by unfold PotO at z; cases z⟩⟩
  have e1 : Fre X.K TT n H n H1 := ⟨⟨e0, fun _ => tab1, fun t => t.mono e0 rfl fun b xs sh _ e => ext b _ e fun _ z => by unfold OwnS at z; cases z⟩, fun b xs e s => ⟨ext b _ e (fun _ z => by unfold OwnS at z; cases z), s⟩⟩
  refine ⟨ρ, n, _, _, r.fre e1, q, fun d m v H2 z e2 s => k _ m _ H2 z (e1.trans e2) .non, ⟨tab1, fun C d m dd v H2 z e2 hd s => ⟨z.1, fun a ha => ?_⟩⟩⟩
  exact k _ m _ _ z.2 ((e1.trans e2).trans (.grow (.new ha))) (.exc upd_same (Grow.new ha _ _ hd) (s.grow (.new ha)))
end
end Aim

namespace Aim
open PySem PySem.Spec PyProof.Rows L2
open LamX (TabB Tabs CodeO)
open Stt (cnt sto)
variable {S : Type} [Stt S]
section
variable {K : PySem.W.Frag} {TT : List (Addr × Str)} {E : XK} {X : Cx} {n : S} {H H' : Hp} {e : Expr} {st : Stmt}
/-! ### pots -/
def gPot (n : Nat) : G2
  | .pot, .int i, P => (i = 0 ∧ ∀ d : Int, 0 ≤ d → P (.int d)) ∨ (i = 1 ∧ ∀ m : Int, -(2 ^ 62) < m → m < 2 ^ 62 → P (.int m)) ∨ (i = 2 ∧ ∀ t : Int, 0 ≤ t → t ≤ n → P (.int t))
  | _, _, _ => False
def dOpN (g : Nat → G2) (fa fb : GDE S) : GDE S := fun ρ n P R => fa ρ n (fun d m => fb ρ m (fun e k => g (cnt k) d e fun z => P z k) R) R
theorem de_ixPot {fa fb : GDE S} (h : PE X e (tOp rIxP (LE K TT E fa) (LE K TT E fb))) : PE X e (LE K TT E (dOpN gPot fa fb)) := h.imp fun σ H Q ⟨ρ, n, P, R, rl, f, k, x⟩ => by
  refine ⟨ρ, n, _, R, rl, f, fun d m v H1 q1 e1 s1 => ⟨ρ, m, _, R, rl.fre e1, q1, fun e j u H2 q2 e2 s2 => ?_, x.mono e1⟩, x⟩
  unfold gPot at q2
  split at q2
  · have s3 := s1.mono e2.toFra
    cases s3 with
    | pot hp l =>
      have e3 := e1.trans e2
      refine ⟨_, _, _, rfl, s2.int_iff, hp, ?_⟩
      rcases q2 with ⟨i0, q⟩ | ⟨i1, q⟩ | ⟨i2, q⟩
      · exact .inl ⟨i0, fun d d0 => k _ j _ H2 (q d d0) e3 (.int _)⟩
      · exact .inr (.inl ⟨i1, fun m m0 m1 => k _ j _ H2 (q m m0 m1) e3 (.int _)⟩)
      · exact .inr (.inr ⟨i2, fun t t0 t1 => k _ j _ H2 (q t t0 (by omega)) e3 (.int _)⟩)
  · exact q2.elim
def gSetPot (nx : S → Prop) (k : S) : Dat → Dat → Dat → Prop
  | .pot, .int j, .int z => (j = 0 ∧ 0 ≤ z ∧ nx (Stt.at_ k (cnt k + 1))) ∨ (j = 2 ∧ 0 ≤ z ∧ z ≤ cnt k + 1 ∧ nx (Stt.at_ k (cnt k + 1)))
  | _, _, _ => False
def dSetPot (fe fo fi : GDE S) : GDS S := fun P ρ n => fe ρ n (fun v m => fo ρ m (fun o j => fi ρ j (fun i k => gSetPot (P.nx ρ) k o i v) P.ex) P.ex) P.ex
theorem ds_setPot {fe fo fi : GDE S} (h : PS X st (tAsg (LE K TT E fe) (gSub (LE K TT E fo) (LE K TT E fi) rSetP))) : PS X st (LS K TT E (dSetPot fe fo fi)) := h.imp fun D σ H ⟨ρ, n, P, rl, f, k⟩ => by
  refine ⟨ρ, n, _, P.ex, rl, f, fun v m u H1 q1 e1 s1 => ⟨ρ, m, _, P.ex, rl.fre e1, q1, fun o j w H2 q2 e2 s2 => ⟨ρ, j, _, P.ex, (rl.fre e1).fre e2, q2, fun i l y H3 q3 e3 s3 => ?_, (k.ex.toE.mono e1).mono e2⟩, k.ex.toE.mono e1⟩, k.ex.toE⟩
  unfold gSetPot at q3
  split at q3
  · have s4 := s2.mono e3.toFra
    have e5 := (e1.trans e2).trans e3
    cases s4 with
    | pot hp lp =>
      refine ⟨_, _, _, _, rfl, s3.int_iff, s1.int_iff, hp, ?_⟩
      rcases q3 with ⟨j0, z0, q⟩ | ⟨j2, z0, z1, q⟩
      · refine .inl ⟨j0, z0, _, Nat.le_refl _, ?_⟩
        have ep := e5.trans (.pots (m := Stt.at_ l (cnt l + 1)) hp (by rw [Stt.cnt_at]; exact Nat.le_succ_of_le lp) (by rw [Stt.cnt_at]; exact Nat.le_succ _) (Stt.sto_at _ _))
        exact k.nx ρ _ σ _ q ep.toFra (rl.fre ep)
      · refine .inr ⟨j2, cnt l + 1, by omega, z0, by push_cast; omega, ?_⟩
        have ep := e5.trans (.pots (m := Stt.at_ l (cnt l + 1)) hp (by rw [Stt.cnt_at]; exact Nat.le_refl _) (by rw [Stt.cnt_at]; exact Nat.le_succ _) (Stt.sto_at _ _))
        exact k.nx ρ _ σ _ q ep.toFra (rl.fre ep)
  · exact q3.elim
/-- a new list of three numbers is a pot -/
def gNewPot : List Dat → (Dat → Prop) → Prop
  | [.int d, .int m, .int t], P => PotB d m t 0 ∧ P .pot
  | _, _ => False
theorem de_newPot {fr : GDA S} (h : PE X e (tPot (tLst (LA K TT E fr)))) : PE X e (LE K TT E (dCB gNewPot fr)) := h.imp fun σ H Q ⟨ρ, n, P, R, rl, f, k, x⟩ => ⟨ρ, n, _, R, rl, f, fun ds m vs H1 q1 e1 s1 => by
  unfold gNewPot at q1
  split at q1
  · cases s1 with
    | cons a s1 =>
      cases s1 with
      | cons b s1 =>
        cases s1 with
        | cons c s1 =>
          cases s1
          rw [a.int_iff, b.int_iff, c.int_iff]
          refine ⟨by show 3 ≤ sizeLine; decide, fun p hp => ⟨p, _, _, _, 0, rfl, upd_same, q1.1, ?_⟩⟩
          rw [upd_upd]
          exact k _ m _ _ q1.2 (e1.trans (.grow (.new hp))) (.pot upd_same (Nat.zero_le _))
  · exact q1.elim, x⟩
/-! ### list(range(..)) -/
theorem numL_rg : ∀ (lo : Int) (k : Nat), SeesL K n H ((List.range k).map fun i => V.int (lo + (i : Nat))) (numL lo k) := by
  intro lo k
  have h : ∀ (k : Nat) (lo : Int) (b : Nat), SeesL K n H ((List.range' b k).map fun i => V.int (lo + (i : Nat))) (numL (lo + b) k) := by
    intro k
    induction k with
    | zero => intro lo b; exact .nil
    | succ k ih =>
      intro lo b
      rw [List.range'_succ]
      refine .cons (.int _) ?_
      have := ih lo (b + 1)
      have e : lo + ((b + 1 : Nat) : Int) = lo + b + 1 := by push_cast; omega
      rw [e] at this
      exact this
  have z := h k lo 0
  rw [← List.range_eq_range'] at z
  simpa using z
def gRg1 (f : GDE S) : GDA S := fun ρ n P R => f ρ n (fun d m => asI d fun j => (-1000000 ≤ j ∧ j ≤ 1000000) ∧ P (numL 0 j.toNat) m) R
def gRg2 (fa fb : GDE S) : GDA S := fun ρ n P R => fa ρ n (fun d m => fb ρ m (fun e k => asI d fun i => asI e fun j => (-1000000 ≤ i ∧ i ≤ 1000000 ∧ -1000000 ≤ j ∧ j ≤ 1000000) ∧ P (numL i (j - i).toNat) k) R) R
theorem lf_rg1 {f : GDE S} {σ : L2.St} {H : Hp} {Q : VK} (h : LF K TT E (gRg1 f) σ H Q) : tLstRg (tRg1 (LE K TT E f)) σ H Q := by
  obtain ⟨ρ, n, P, R, r, q, k, x⟩ := h
  refine ⟨ρ, n, _, R, r, q, fun d m v H1 z e s => ?_, x⟩
  obtain ⟨j, rfl, ⟨h0, h1⟩, z⟩ := asI_of z
  refine ⟨j, s.int_iff, ⟨by omega, by omega, by omega, by omega, by omega⟩, fun l hl => ?_⟩
  refine lf_grow k z e r.st hl ?_ ?_
  · rw [rgV_length]
    have : (j - 0).toNat ≤ 1000000 := by omega
    exact Nat.le_trans this (by decide)
  · unfold rgV
    rw [Int.sub_zero]
    exact numL_rg 0 _
theorem lf_rg2 {fa fb : GDE S} {σ : L2.St} {H : Hp} {Q : VK} (h : LF K TT E (gRg2 fa fb) σ H Q) : tLstRg (tRg2 (LE K TT E fa) (LE K TT E fb)) σ H Q := by
  obtain ⟨ρ, n, P, R, r, q, k, x⟩ := h
  refine ⟨ρ, n, _, R, r, q, fun d m v H1 z e s => ⟨ρ, m, _, R, r.fre e, z, fun d2 m2 v2 H2 z2 e2 s2 => ?_, x.mono e⟩, x⟩
  obtain ⟨i, rfl, z3⟩ := asI_of z2
  obtain ⟨j, rfl, h0, z4⟩ := asI_of z3
  refine ⟨i, j, s.int_iff, s2.int_iff, ⟨by omega, by omega, by omega, by omega, by omega⟩, fun l hl => ?_⟩
  refine lf_grow k z4 (e.trans e2) r.st hl ?_ (numL_rg i _)
  rw [rgV_length]
  have : (j - i).toNat ≤ 2000000 := by omega
  exact Nat.le_trans this (by decide)
/-! ### own lists: append, insert -/
def gAppend : GO
  | ds, [a], P => ds.length < sizeLine ∧ P (ds ++ [a])
  | _, _, _ => False
theorem od_append : OwnD K rAppend gAppend := fun n l xs vs ds as G H Q P g sx sv hl lx k => by
  unfold gAppend at g
  split at g
  · obtain ⟨v, rfl, w⟩ := sv.one
    have h := g.1
    rw [← sx.length] at h
    exact ⟨l, xs, v, rfl, rfl, hl, h, k _ _ g.2 (sx.append (.cons w .nil)) (by rw [List.length_append, List.length_singleton]; omega)⟩
  · exact g.elim
def gInsert : GO
  | ds, [.int i, a], P => (ds.length < sizeLine ∧ 0 ≤ i ∧ i < 2 ^ 63) ∧ P (ds.take i.toNat ++ [a] ++ ds.drop i.toNat)
  | _, _, _ => False
theorem od_insert : OwnD K (fun x vs H Q => ∃ (l : Addr) (xs : List V) (i : Int) (y : V), x = .ref l ∧ vs = [.int i, y] ∧ H l = some (.lst xs) ∧ xs.length < sizeLine ∧ 0 ≤ i ∧ i < 2 ^ 63 ∧ Q .non (upd H l (.lst (xs.take i.toNat ++ [y] ++ xs.drop i.toNat)))) gInsert := fun n l xs vs ds as G H Q P g sx sv hl lx k => by
  unfold gInsert at g
  split at g
  · obtain ⟨v, u, rfl, w1, w2⟩ := sv.two
    obtain ⟨⟨h, h0, h1⟩, g⟩ := g
    rw [← sx.length] at h
    refine ⟨l, xs, _, u, rfl, by rw [w1.int_iff], hl, h, h0, h1, k _ _ g (((sx.take _).append (.cons w2 .nil)).append (sx.drop _)) ?_⟩
    simp only [List.length_append, List.length_take, List.length_drop, List.length_singleton]
    omega
  · exact g.elim
/-! ### an own list read for a flat answer -/
theorem tabs_map2 {H G : Hp} (t : Tabs TT H) (k : ∀ b o, H b = some o → (∃ ps, o = .tbl ps) ∨ (∃ q, o = CodeO b q) → G b = some o) : Tabs TT G := fun x hx => by
  obtain ⟨ps, h1, h2, h3⟩ := t x hx
  refine ⟨ps, k _ _ h1 (.inl ⟨_, rfl⟩), h2, fun pos cv hc => ?_⟩
  obtain ⟨c, e1, e2⟩ := h3 pos cv hc
  exact ⟨c, e1, k _ _ e2 (.inr ⟨_, rfl⟩)⟩
def dBor (i : Nat) (f : DE) : DE := fun ρ n P _ => ownOf (slAt ρ i) fun ds => f (ρ.set i (.val (.lst ds))) n (fun d m => flatK d = true ∧ P d m) R0
theorem flat_sees {m k : S} {H1 H2 : Hp} {v : V} {d : Dat} (s : Sees K m H1 v d) (f : flatK d = true) : Sees K k H2 v d := by
  cases s with
  | non => exact .non
  | bl b => exact .bl b
  | int i => exact .int i
  | str x l => exact .str x l
  | _ => cases f
theorem de_bor {i : Nat} {f : DE} (h : PE X e (LE K TT E f)) : PE X e (LE K TT E (dBor i f)) := ⟨fun pins s σ H Q I ⟨ρ, n, P, R, rl, q, k, x⟩ => by
  obtain ⟨ds, hρ, q⟩ := ownOf_of q
  obtain ⟨a, xs, hσ, l, hH, hs, sx⟩ := rl.owned hρ
  have fm : Fra K TT n H n (upd H a (.lst xs)) := .melt l hH hs
  have me : Owns ρ σ i a := ⟨⟨ds, hρ⟩, hσ⟩
  have rl2 : Rel K (ρ.set i (.val (.lst ds))) n σ (upd H a (.lst xs)) := by
    have z := (Rel.drop (i := i) (o := none) rl).mono fm (k2 := fun i C x dx ks ds zs _ hx hd s1 s2 => ⟨⟨not_makes hH l hd, not_hid hH hx⟩, s1, s2⟩) fun j b zs ow lz eb sb => ⟨by
      rw [upd_ne]
      intro w
      subst w
      obtain ⟨⟨ds', e1⟩, e2⟩ := ow
      by_cases hij : i = j
      · subst hij
        rw [List.getElem?_set] at e1
        split at e1
        · split at e1 <;> cases e1
        · rename_i w
          exact w rfl
      · rw [List.getElem?_set_ne hij] at e1 e2
        exact rl.ap i j b b hij me ⟨⟨ds', e1⟩, e2⟩ rfl, sb⟩
    have w := z.put (i := i) (Sees.lstOf (K := K) (n := n) (H := upd H a (.lst xs)) upd_same l (sx.mono fm))
    simp only [List.set_set] at w
    rw [(rl.here hρ hσ).2] at w
    exact w
  refine thn (h.run pins s σ (upd H a (.lst xs)) (fun v H1 => H1 a = some (.lst xs) ∧ Q v (upd H1 a (OwnO xs a))) (of_own I hH) ⟨_, n, _, R0, rl2, q, fun d m v H1 q1 e1 s1 => ?_, .zero (fm.tab x.tab)⟩) fun u s1 ⟨v, H1, J, r, ha, q1⟩ => ⟨v, _, to_own J ha, r, q1⟩
  have ha : H1 a = some (.lst xs) := e1.keep _ _ upd_same (perm_ext (fun _ z => nomatch z) fun _ z => nomatch z)
  refine ⟨ha, k d m v _ q1.2 ⟨⟨⟨e1.le, fun b o eb p => ?_, fun b j lj eb => ?_⟩, fun t => ?_, fun _ => .nat⟩, fun b ys eb _ => ⟨?_, rfl⟩⟩ (flat_sees s1 q1.1)⟩
  · have hb := own_perm l hH eb p
    rw [upd_ne hb]
    exact e1.keep b o (by rw [upd_ne hb]; exact eb) p
  · have hb : b ≠ a := fun z => by
      subst z
      rw [hH] at eb
      exact own_pot (Option.some.inj eb)
    obtain ⟨i, h1, h2⟩ := e1.pot b j lj (by rw [upd_ne hb]; exact eb)
    exact ⟨i, h1, by rw [upd_ne hb]; exact h2⟩
  · refine tabs_map2 (e1.tab (fm.tab t)) fun b o w kind => ?_
    rw [upd_ne fun z => ?_]
    · exact w
    · subst z
      rw [ha] at w
      cases w
      rcases kind with ⟨ps, z⟩ | ⟨q, z⟩
      · cases z
      · unfold CodeO at z
        cases z
  · by_cases hb : b = a
    · subst hb
      rw [hH] at eb
      rw [upd_same]
      exact eb
    · rw [upd_ne hb]
      exact (e1.own b ys (by rw [upd_ne hb]; exact eb) rfl).1⟩
end
end Aim

namespace Aim
open PySem PySem.Spec PyProof.Rows L2
open LamX (TabB Tabs CodeO)
open Stt (cnt sto)
variable {S : Type} [Stt S]
section
variable {P : Program} {w : World} {K : PySem.W.Frag} {mg : Str → Option Value} {base : Heap} {TT : List (Addr × Str)} {G : Bool} {x : Str} {st : Stmt} {N ps : List Str} {k : Nat} {sp : GDSp S}
/-- a def that makes lambdas -/
theorem dat_okC {c : Addr} (F : HasC K mg x st c) (hb : ∀ (kV doc pm : Value) (an : Option Addr) (cdv ct : Value) (us : List Value), us.length = ps.length → bindArgs (PySem.W.fnOf x x (defArgs st) (defBody st) (defScope st) .none kV doc pm an cdv ct) ⟨us, []⟩ = pure (ps.zip us)) (S : FnScope N ps (defScope st))
    (body : ∀ (f : Addr) (A : Around) (outer : List Env) (s : Shared) (H : Hp) (E : XK), Room k (A.deeper (envOfC x (defScope st) s.heap.objs.size f (.ref c))) → (G = true → A.guards = some []) →
      ∃ g, PSs (cxOf (L2.CX P w) P w K mg base N x (defScope st) f (.ref c) A outer s H E).nox (defBody st) (LS K TT E0 g) ∧ ∀ ds n PP R, sp ds n PP R → ds.length = ps.length ∧ g { nx := fun _ m => PP .non m, rt := PP, ex := R0 } (dstart N ds) n)
    (hl : ∀ ds n PP R, sp ds n PP R → ds.length = ps.length) : Df P w K mg base G (k + 1) x (LSp K TT sp) := by
  refine df_okC F S (fun vs H Q E h => ?_) hb (fun f A outer s H vs Q E hr hG h => ?_)
  · obtain ⟨ds, n, PP, R, s, h, _⟩ := h
    rw [s.length]
    exact hl _ _ _ _ h
  · obtain ⟨g, hp, q⟩ := body f A outer s H E hr hG
    obtain ⟨ds, n, PP, R, se, h, kQ, kE, kS⟩ := h
    exact ⟨_, hp, ends_of se (q ds n PP R h).2 kQ (.zero kE.tab) kS⟩
/-- a weaker promise -/
theorem Df.wk {sp' : GDSp S} (d : Df P w K mg base G k x (LSp K TT sp)) (h : ∀ ds n PP R, sp' ds n PP R → sp ds n PP R) : Df P w K mg base G k x (LSp K TT sp') := d.imp fun _ _ _ _ ⟨ds, n, PP, R, s, q, r⟩ => ⟨ds, n, PP, R, s, h _ _ _ _ q, r⟩
/-- a module's constant -/
def GC (K : PySem.W.Frag) (mg : Str → Option Value) (x : Str) (d : Dat) : Prop := ∃ v u, mg x = some u ∧ RelV v u ∧ ∀ {U : Type} [Stt U] (n : U) (H : Hp), Sees K n H v d
end
section
variable {X : Cx} {TT : List (Addr × Str)} {E : XK} {x : Str} {d : Dat} {pos : Pos}
theorem de_g (hg : Gl X x) (h : GC X.K X.mg x d) (hd : (x == ("__debug__" : Str)) = false := by decide) : PE X (.Name x pos) (LE (S := S) X.K TT E (dC d)) := by
  obtain ⟨v, u, h1, h2, h3⟩ := h
  exact de_c (pe_glob hg h1 h2 hd) h3
end
theorem units65 {k : Nat} {A : Around} (r : Room k A) : A.units + 65 < cLine := by have := r.un; omega
/-- a target of names takes a tuple of their number -/
def nameT : List Nat → DGs
  | [] => dgNil
  | i :: r => dgCons (dgName i) (nameT r)
theorem dgl_len : ∀ {l : List Nat} {ds : List Dat} {ρ : List Sl} {Q : List Sl → Prop}, nameT l ds ρ Q → ds.length = l.length
  | [], ds, _, _, h => dgl_nil h
  | i :: r, [], _, _, h => False.elim h
  | i :: r, d :: ds, _, _, h => congrArg (· + 1) (dgl_len (l := r) (show nameT r ds _ _ from h))
/-- what follows is shown once, from M -/
def dCut (g1 g2 : GDS S) : GDS S := fun P ρ n => ∃ M : List Sl → S → Prop, g1 { P with nx := M } ρ n ∧ ∀ ρ' m, M ρ' m → g2 P ρ' m
theorem dss_cut {K : PySem.W.Frag} {TT : List (Addr × Str)} {E : XK} {X : Cx} {st : Stmt} {sts : List Stmt} {g1 g2 : GDS S} (h1 : PS X st (LS K TT E g1)) (h2 : PSs X sts (LS K TT E g2)) : PSs X (st :: sts) (LS K TT E (dCut g1 g2)) := (pss_cons h1 h2).imp fun D σ H ⟨ρ, n, P, r, ⟨M, f, q⟩, k⟩ =>
  ⟨ρ, n, { P with nx := M }, r, f, ⟨fun ρ' m σ' H' z e r' => ⟨ρ', m, P, r', q ρ' m z, k.mono e⟩, k.rt, k.bk, k.ct, k.ex⟩⟩
/-! ### for and comprehensions, by what holds at each turn -/
def dForI (fi : GDI S) (tg : DG) (body : GDS S) : GDS S := fun P ρ n => fi ρ n (fun ds m => ∃ I : Nat → List Sl → S → Prop, I 0 ρ m ∧
  (∀ i d ρ' j, ds[i]? = some d → I i ρ' j → tg d ρ' fun ρ2 => body { P with nx := I (i + 1), ct := I (i + 1), bk := P.nx } ρ2 j) ∧ ∀ ρ' j, I ds.length ρ' j → P.nx ρ' j) P.ex
section
variable {K : PySem.W.Frag} {TT : List (Addr × Str)} {E : XK} {X : Cx}
theorem LS.forI {fi : GDI S} {vs : List Nat} {tg : DG} {body : GDS S} {D : Ends} {σ : L2.St} {H : Hp} (h : LS K TT E (dForI fi tg body) D σ H) : tFor (LI K TT E fi) (LG (S := S) K vs tg) (LS K TT E body) D σ H := by
  obtain ⟨ρ, n, P, r, f, k⟩ := h
  refine ⟨ρ, n, _, P.ex, r, f, fun ds m J H1 q e it => ?_, k.ex.toE⟩
  have k1 := k.mono e.toFra
  obtain ⟨I, i0, st, dn⟩ := q
  refine ⟨fun i j σ' H' => j = ds.length - i ∧ i ≤ ds.length ∧ ∃ ρ' m', Rel K ρ' m' σ' H' ∧ Fra K TT m H1 m' H' ∧ I i ρ' m', ⟨ds.length, by simp, Nat.zero_le _, ρ, m, r.fre e, .refl, i0⟩, ?_⟩
  rintro i j σ' H' ⟨rfl, hi, ρ', m', r', g, l⟩
  by_cases hlt : i < ds.length
  · refine .inr ⟨it.goes i _ _ hlt g, fun σ2 H2 => ∃ ρ2 m2, Rel K ρ2 m2 σ2 H2 ∧ Fra K TT m H1 m2 H2 ∧ I (i + 1) ρ2 m2, fun σ2 H2 z => ⟨ds.length - (i + 1), by omega, rfl, hlt, z⟩, fun x H2 y => ?_⟩
    obtain ⟨gr, sx⟩ := it.yields i m' H' x H2 _ (List.getElem?_eq_getElem hlt) g y
    have g2 := g.trans (.grow gr)
    refine ⟨ρ', m', _, _, r'.grow gr, sx H2 g2 (fun _ _ e _ => e), st i _ ρ' m' (List.getElem?_eq_getElem hlt) l, fun ρ3 σ3 b3 r3 _ => ⟨ρ3, m', _, r3, b3, ?_⟩⟩
    exact ⟨fun ρ4 m4 σ4 H4 q4 g4 r4 => ⟨ρ4, m4, r4, g2.trans g4, q4⟩, fun d m4 v H4 q4 g4 s4 => k1.rt d m4 v H4 q4 (g2.trans g4) s4, fun ρ4 m4 σ4 H4 q4 g4 r4 => k1.nx ρ4 m4 σ4 H4 q4 (g2.trans g4) r4, fun ρ4 m4 σ4 H4 q4 g4 r4 => ⟨ρ4, m4, r4, g2.trans g4, q4⟩, k1.ex.mono g2⟩
  · have e : i = ds.length := by omega
    subst e
    exact .inl ⟨it.stops _ _ g, k1.nx ρ' m' σ' H' (dn _ _ l) g r'⟩
theorem ds_forI {iter tg : Expr} {body : List Stmt} {fi : GDI S} {vs : List Nat} {g : DG} {gb : GDS S} {pos : Pos} (hp : PassesOwn (model X.prog X.w) X.A X.env X.xe) (hc : X.calm = true) (hi : PI X tg iter (LI K TT E fi)) (hg : PG X tg (LG (S := S) K vs g)) (hb : PSs X body (LS K TT E gb))
    (hs : ∀ x, foldedSetIterable iter X.env x = pure x := by intro _; rfl) : PS X (.For tg iter body [] pos) (LS K TT E (dForI fi g gb)) := (ps_for hp hc hi hg hb hs).imp fun _ _ _ h => h.forI
end
/-- the turns of a comprehension, by what holds at each -/
def compI (l : List Nat) (tg : DG) (tt : GDT S) (fe : GDE S) (ρ : List Sl) (P : List Dat → S → Prop) (ds : List Dat) (m : S) : Prop := ∃ I : Nat → List Dat → S → Prop, I 0 [] m ∧
  (∀ i d acc j, ds[i]? = some d → I i acc j → tg d (wiped ρ l) fun ρ' => tt ρ' j (fun b k => if b = true then fe ρ' k (fun y z => I (i + 1) (acc ++ [y]) z) R0 else I (i + 1) acc k) R0) ∧ ∀ acc j, I ds.length acc j → P acc j
def dLcI (fi : GDI S) (l : List Nat) (tg : DG) (tt : GDT S) (fe : GDE S) : GDA S := fun ρ n P R => fi ρ n (fun ds m => compI l tg tt fe ρ P ds m) R
/-- each item gives f of it, or nothing -/
theorem compI_pure {l : List Nat} {tg : DG} {tt : GDT S} {fe : GDE S} {ρ : List Sl} {P : List Dat → S → Prop} {ds : List Dat} {m : S} (f : Dat → Option Dat)
    (h : ∀ d ∈ ds, ∀ (Q : Dat → S → Prop) (Z : S → Prop), (∀ y, f d = some y → Q y m) → (f d = none → Z m) → tg d (wiped ρ l) fun ρ' => tt ρ' m (fun b k => if b = true then fe ρ' k Q R0 else Z k) R0) (k : P (ds.filterMap f) m) : compI l tg tt fe ρ P ds m := by
  refine ⟨fun i acc j => acc = (ds.take i).filterMap f ∧ j = m, ⟨by simp, rfl⟩, fun i d acc j hd ⟨e1, e2⟩ => ?_, fun acc j ⟨e1, e2⟩ => ?_⟩
  · subst e1
    subst e2
    have ht : ds.take (i + 1) = ds.take i ++ [d] := by
      rw [List.take_add_one, hd]
      rfl
    refine h d (List.mem_of_getElem? hd) _ _ (fun y hy => ⟨?_, rfl⟩) (fun hy => ⟨?_, rfl⟩)
    · rw [ht, List.filterMap_append]
      simp [hy]
    · rw [ht, List.filterMap_append]
      simp [hy]
  · rw [e1, e2, List.take_length]
    exact k
theorem compI_map {l : List Nat} {tg : DG} {fe : GDE S} {ρ : List Sl} {P : List Dat → S → Prop} {ds : List Dat} {m : S} (f : Dat → Dat)
    (h : ∀ d ∈ ds, ∀ (Q : Dat → S → Prop), Q (f d) m → tg d (wiped ρ l) fun ρ' => fe ρ' m Q R0) (k : P (ds.map f) m) : compI l tg (fun _ n P _ => P true n) fe ρ P ds m := by
  refine compI_pure (fun d => some (f d)) (fun d hd Q Z q _ => h d hd Q (q _ rfl)) ?_
  rw [List.filterMap_eq_map']
  exact k
section
variable {K : PySem.W.Frag} {TT : List (Addr × Str)} {E : XK} {X : Cx}
theorem comp_of {l : List Nat} {tg : DG} {tt : GDT S} {fe : GDE S} {ρ : List Sl} {P : List Dat → S → Prop} {σ : L2.St} {H : Hp} {fi : GDI S} {vs : List Nat} {Q : VK} (hl : ∀ i ∈ vs, i ∈ l) (h : LF K TT E (dLcI fi l tg tt fe) σ H Q) : tLc (LI K TT E fi) (gHide (LG (S := S) K vs tg)) (tHideT (LTs K TT E0 tt)) (tHide (LE K TT E0 fe)) l σ H Q := by
  obtain ⟨ρ, n, P, R, r, f, k, x⟩ := h
  refine ⟨ρ, n, _, R, r, f, fun ds m J H1 q e it D hD => ?_, x⟩
  obtain ⟨I, i0, st, dn⟩ := q
  have tab1 := e.tab x.tab
  have r1 := r.fre e
  have hD0 : ∀ {sh : Shp} (ys : List V), H D = some (OwnS sh ys D) → sto n D ≠ none := fun ys w ws => by rw [(e.own D ys w ws).1] at hD; cases hD
  have sD : sto m D = none := r1.st.free hD
  refine ⟨fun i j H' => j = ds.length - i ∧ i ≤ ds.length ∧ ∃ m' xs as, H' D = some (.lst xs) ∧ xs.length ≤ i ∧ sto m' D = none ∧ Fre K TT m H1 m' (upd H' D (OwnO xs D)) ∧ SeesL K m' (upd H' D (OwnO xs D)) xs as ∧ I i as m', ⟨ds.length, by simp, Nat.zero_le _, m, [], [], upd_same, Nat.le_refl _, sD, ?_, .nil, i0⟩, ?_⟩
  · rw [upd_upd]
    exact .grow (.new hD)
  rintro i j H' ⟨rfl, hi, m', xs, as, hx, hl', hs', g, sx, c⟩
  by_cases hlt : i < ds.length
  · have c := st i _ as m' (List.getElem?_eq_getElem hlt) c
    have lx : xs.length ≤ sizeLine := Nat.le_trans hl' (Nat.le_trans hi it.len)
    have back : upd (upd H' D (OwnO xs D)) D (.lst xs) = H' := upd_back hx
    have gm : Fra K TT m H1 m' H' := by
      have z := g.toFra.trans (Fra.melt (TT := TT) (n := m') (ys := xs) lx (show upd H' D (OwnO xs D) D = some (OwnO xs D) from upd_same) hs')
      rw [back] at z
      exact z
    refine .inr ⟨it.goes i _ _ hlt gm, fun H2 => ∃ m2 ys bs, H2 D = some (.lst ys) ∧ ys.length ≤ i + 1 ∧ sto m2 D = none ∧ Fre K TT m H1 m2 (upd H2 D (OwnO ys D)) ∧ SeesL K m2 (upd H2 D (OwnO ys D)) ys bs ∧ I (i + 1) bs m2, fun H2 z => ⟨ds.length - (i + 1), by omega, rfl, hlt, z⟩, fun x H2 y => ?_⟩
    obtain ⟨gr, sx2⟩ := it.yields i m' H' x H2 _ (List.getElem?_eq_getElem hlt) gm y
    have hx2 : H2 D = some (.lst xs) := gr _ _ hx
    have gr2 : Grow (upd H' D (OwnO xs D)) (upd H2 D (OwnO xs D)) := fun b o w => by
      by_cases hb : b = D
      · subst hb
        rw [upd_same] at w ⊢
        exact w
      · rw [upd_ne hb] at w ⊢
        exact gr b o w
    have g2 : Fre K TT m H1 m' (upd H2 D (OwnO xs D)) := g.trans (.grow gr2)
    have sx3 := sx2 _ g2.toFra fun b o w1 w2 => by
      rw [upd_ne fun z => by rw [z, hx] at w2; cases w2]
      exact w1
    refine ⟨D, xs, hx2, _, m', _, _, (r1.fre g2).wipe l, sx3, c, fun ρ3 σ3 q3 r3 w3 => ⟨upd_same, ?_⟩⟩
    rw [upd_back hx2]
    refine ⟨(w3 l hl).trans ?_, D, xs, hx2, ρ3, m', _, _, r3, q3, fun b m3 H3 q4 e3 => ⟨(e3.own _ _ upd_same hs').1, ?_⟩, .zero (g2.tab tab1)⟩
    · exact wipe_wipe σ l
    · have o3 : H3 D = some (OwnO xs D) := (e3.own _ _ upd_same hs').1
      have s3 : sto m3 D = none := (e3.own _ _ upd_same hs').2
      have b3 : upd (upd H3 D (.lst xs)) D (OwnO xs D) = H3 := upd_back o3
      have g3 := g2.trans e3
      cases b with
      | true =>
        refine ⟨D, xs, upd_same, ?_⟩
        rw [b3]
        refine ⟨ρ3, m3, _, _, r3.fre e3, q4, fun d4 m4 v4 H4 q5 e4 s4 => ⟨(e4.own _ _ o3 s3).1, xs, upd_same, ?_, m4, xs ++ [v4], as ++ [d4], upd_same, by simp; omega, (e4.own _ _ o3 s3).2, ?_, ?_, q5⟩, .zero (g3.tab tab1)⟩
        · have := it.len
          omega
        all_goals rw [upd_upd, upd_upd]
        · refine ⟨(g3.trans e4).toFra.trans (.own (e4.own _ _ o3 s3).1 (e4.own _ _ o3 s3).2), fun b ys w ws => ?_⟩
          rw [upd_ne fun z => by rw [z, hD] at w; cases w]
          exact (g3.trans e4).own b ys w ws
        · have fo : Fra K TT m4 H4 m4 (upd H4 D (OwnO (xs ++ [v4]) D)) := .own (e4.own _ _ o3 s3).1 (e4.own _ _ o3 s3).2
          exact ((((sx.grow gr2).mono e3.toFra).mono e4.toFra).mono fo).append (.cons (s4.mono fo) .nil)
      | false =>
        refine ⟨m3, xs, as, upd_same, by omega, s3, ?_, ?_, q4⟩
        all_goals rw [b3]
        · exact g3
        · exact ((sx.grow gr2).mono e3.toFra)
  · have e2 : i = ds.length := by omega
    subst e2
    have lx : xs.length ≤ sizeLine := Nat.le_trans hl' it.len
    have back : upd (upd H' D (OwnO xs D)) D (.lst xs) = H' := upd_back hx
    have gm : Fra K TT m H1 m' H' := by
      have z := g.toFra.trans (Fra.melt (TT := TT) (n := m') (ys := xs) lx (show upd H' D (OwnO xs D) D = some (OwnO xs D) from upd_same) hs')
      rw [back] at z
      exact z
    exact .inl ⟨it.stops _ _ gm, k as m' xs D H' (dn _ _ c) hD0 hx lx hs' (e.trans g) sx⟩
variable {e elt tg iter : Expr} {st : Stmt} {pos spos : Pos}
theorem lf_lcI {ifs : List Expr} {scope : Scope} {own : List (Str × Nat)} {fi : GDI S} {vs : List Nat} {g : DG} {tt : GDT S} {fe : GDE S} (hc : X.calm = true) (hN : X.N.Nodup) (hi : PI X tg iter (LI K TT E fi)) (ok : BlkOk X.N X.env.scope scope own)
    (hg : ∀ (s : Shared) (H : Hp) (C : Addr) (cl : List (Str × Addr)) (fp : List Addr), PG (X.blk s H scope (compEnvC scope cl C X.env) fp) tg (LG (S := S) K vs g)) (ht : ∀ (s : Shared) (H : Hp) (C : Addr) (cl : List (Str × Addr)) (fp : List Addr), PTs (X.blk s H scope (compEnvC scope cl C X.env) fp) ifs (LTs K TT E0 tt))
    (he : ∀ (s : Shared) (H : Hp) (C : Addr) (cl : List (Str × Addr)) (fp : List Addr), PE (X.blk s H scope (compEnvC scope cl C X.env) fp) elt (LE K TT E0 fe)) (hl : ∀ i ∈ vs, i ∈ own.map (·.2) := by simp) (hs : ∀ x, foldedSetIterable iter X.env x = pure x := by intro _; rfl) :
    PE X (.ListComp elt [⟨tg, iter, ifs, 0⟩] scope pos) (LF K TT E (dLcI fi (own.map (·.2)) g tt fe)) := (pe_lc hc hN hi ok (fun s H C cl fp => pg_hide (hg s H C cl fp)) (fun s H C cl fp => pts_hide (ht s H C cl fp)) (fun s H C cl fp => pe_hide (he s H C cl fp)) hs).imp fun _ _ _ h => comp_of (ρ := []) (P := fun _ _ => True) hl h
theorem st_lcI {i : Nat} {y : Str} {py : Pos} {ifs : List Expr} {scope : Scope} {own : List (Str × Nat)} {fi : GDI S} {vs : List Nat} {g : DG} {tt : GDT S} {fe : GDE S} (hc : X.calm = true) (hN : X.N.Nodup) (hy : X.N[i]? = some y) (hyl : X.env.scope.names.lookup y = some .local)
    (hsw : swapsWith (.ListComp elt [⟨tg, iter, ifs, 0⟩] scope pos) (some (.Name y py)) spos.line X.env = pure true) (hi : PI X tg iter (LI K TT E fi)) (ok : BlkOk X.N X.env.scope scope own)
    (hg : ∀ (s : Shared) (H : Hp) (C : Addr) (cl : List (Str × Addr)) (fp : List Addr), PG (X.blk s H scope (compEnvC scope cl C X.env) fp) tg (LG (S := S) K vs g)) (ht : ∀ (s : Shared) (H : Hp) (C : Addr) (cl : List (Str × Addr)) (fp : List Addr), PTs (X.blk s H scope (compEnvC scope cl C X.env) fp) ifs (LTs K TT E0 tt))
    (he : ∀ (s : Shared) (H : Hp) (C : Addr) (cl : List (Str × Addr)) (fp : List Addr), PE (X.blk s H scope (compEnvC scope cl C X.env) fp) elt (LE K TT E0 fe)) (hl : ∀ i ∈ vs, i ∈ own.map (·.2) := by simp) (hs : ∀ x, foldedSetIterable iter X.env x = pure x := by intro _; rfl) :
    PS X (.Assign [.Name y py] (.ListComp elt [⟨tg, iter, ifs, 0⟩] scope pos) spos) (tAsg (LF K TT E (dLcI fi (own.map (·.2)) g tt fe)) (gName i)) := (ps_setLc hc hN hy hyl hsw hi ok (fun s H C cl fp => pg_hide (hg s H C cl fp)) (fun s H C cl fp => pts_hide (ht s H C cl fp)) (fun s H C cl fp => pe_hide (he s H C cl fp)) hs).imp fun D σ H h => by
  have h : LF K TT E _ σ H (fun x H1 => gName i x σ H1 D.nx) := h
  exact comp_of (ρ := []) (P := fun _ _ => True) hl h
end
/-! ### reading -/
theorem ifT {A B : Prop} (h : A) : if true = true then A else B := iteT h
theorem ifF {A B : Prop} (h : B) : if false = true then A else B := iteF h
end Aim

namespace Aim
open PySem PySem.Spec PyProof.Rows L2 HT
open LamX (TabB Tabs CodeO)
open Stt (cnt sto)
variable {S : Type} [Stt S]
section
variable {prog : Program} {w : World} {A : Around} {E : Value → Shared → Prop} {s : Shared}
theorem rev_adjust (n : Nat) : Builtin.Slice.sliceAdjust none none (-1) (n : Int) = ((n : Int) - 1, -1) := by
  unfold Builtin.Slice.sliceAdjust
  simp
theorem rev_places (n : Nat) : Builtin.Slice.slicePlaces ((n : Int) - 1) (-1) (-1) = n := by
  unfold Builtin.Slice.slicePlaces
  have h1 : ¬ ((-1 : Int) > 0) := by decide
  simp only [h1, if_false]
  split
  · rw [show (-(-1 : Int)) = 1 by decide, Int.ediv_one]
    omega
  · omega
theorem rev_applied {sl : Addr} {n : Nat} {t : Tok} {Q : Int × Int × Nat → Shared → Prop} (hs : s.heap.IsSliceOf sl .none .none (.int (-1) t)) (h : Q ((n : Int) - 1, -1, n) s) : wpAny (model prog w) A (Builtin.Slice.sliceApplied (.ref sl) (pure (n : Int))) Q E s := by
  obtain ⟨os, hos, hcs, hds⟩ := id hs
  unfold Builtin.Slice.sliceApplied Builtin.Slice.sliceFields
  refine wpAny_bind (wpAny_bind (wpAny_field hos hds (x := .none) rfl (wpAny_bind (wpAny_field hos hds (x := .none) rfl (wpAny_bind (wpAny_field hos hds (x := .int (-1) t) rfl (wpAny_pure ?_)))))))
  refine wpAny_bind (slicePart_int ?_)
  show wpAny _ _ (if ((-1 : Int) == 0) = true then _ else _) _ _ s
  rw [if_neg (by decide)]
  refine wpAny_bind (slicePart_none (wpAny_bind (slicePart_none (wpAny_bind (wpAny_pure ?_)))))
  show wpAny _ _ (match Builtin.Slice.sliceAdjust none none (-1) (n : Int) with | (lo, hi) => pure (lo, (-1 : Int), Builtin.Slice.slicePlaces lo hi (-1))) _ _ s
  rw [rev_adjust n]
  show wpAny _ _ (pure ((n : Int) - 1, (-1 : Int), Builtin.Slice.slicePlaces ((n : Int) - 1) (-1) (-1))) _ _ s
  rw [rev_places]
  exact wpAny_pure h
theorem fm_congr {α β : Type} {f g : α → Option β} : ∀ {l : List α}, (∀ m ∈ l, f m = g m) → l.filterMap f = l.filterMap g
  | [], _ => rfl
  | x :: r, h => by
    rw [List.filterMap_cons, List.filterMap_cons, h x (by simp), fm_congr fun m hm => h m (by simp [hm])]
theorem rev_pick (xs : Array Value) : ((List.range xs.size).filterMap fun (m : Nat) => xs[(((xs.size : Int) - 1) + (m : Int) * (-1)).toNat]?).toArray = xs.toList.reverse.toArray := by
  have e : ∀ m ∈ List.range xs.size, xs[(((xs.size : Int) - 1) + (m : Int) * (-1)).toNat]? = xs[xs.size - 1 - m]? := fun m hm => by
    have := List.mem_range.mp hm
    congr 1
    omega
  rw [fm_congr e]
  have h2 : ((List.range xs.size).filterMap fun m => xs[xs.size - 1 - m]?) = ((List.range xs.size).map fun k => xs.size - 1 - k).filterMap (xs[·]?) := by rw [List.filterMap_map]; rfl
  rw [h2, PySem.W.krv_range, List.filterMap_reverse, PySem.W.krv_all]
theorem getItem_tuple_rev {t sl : Addr} {items : Array Value} {tk : Tok} {Q : Value → Shared → Prop} (ht : IsTup s.heap t items) (hs : s.heap.IsSliceOf sl .none .none (.int (-1) tk))
    (h : Q (.ref s.heap.objs.size) { s with heap := s.heap.push { cls := .type "tuple", data := .seq items.toList.reverse.toArray } }) (hsz : items.size ≤ sizeLine) : wpAny (model prog w) A (getItem (.ref t) (.ref sl)) Q E s := by
  have htake : sizeOk (.seq items.toList.reverse.toArray) := by
    show items.toList.reverse.toArray.size ≤ sizeLine
    simpa using hsz
  obtain ⟨os, hos, hcs, hds⟩ := id hs
  have hTs : s.TypeIs (.ref sl) "slice" := ⟨os, hos, hcs⟩
  unfold getItem
  try with_reducible refine wpAny_holding ?_
  first | refine wpAny_bind (wpAny_pure ?_) | skip
  refine wpAny_bind (wpAny_sequenceKey ht.typeIs (by decide) ?_)
  refine wpAny_bind (wpAny_callSpecial?_slot (name := Str.ofString "__getitem__") ht.typeIs PyProof.Rows.slot_tuple_getitem
    (wpAny_call_entry PyProof.Rows.slot_tuple_getitem ht.typeIs PyProof.Rows.entry_tuple_getitem ?_ (PyProof.Rows.args_tuple_getitem _ _)))
  show wpAny _ _ (Builtin.Tuple.tupleItemsOf (.ref t) >>= _) _ _ s
  refine wpAny_bind (tupleItemsOf_ ht ?_)
  refine wpAny_bind (wpAny_typeOf hTs ?_)
  rw [if_pos (by decide)]
  refine wpAny_bind (rev_applied hs ?_)
  have hno : ¬ ((((items.size : Int) - 1) == 0 && (-1 : Int) == 1 && items.size == items.size) = true) := by simp
  show wpAny _ _ (if (((items.size : Int) - 1) == 0 && (-1 : Int) == 1 && items.size == items.size) = true then _ else _) _ _ s
  rw [if_neg hno, rev_pick]
  first
    | exact wpAny_bind (m := Builtin.Tuple.tupleExact _) (wpAny_newObj_type (wpAny_pure ⟨_, rfl, wpAny_pure h⟩) htake)
    | exact wpAny_bind (m := Builtin.Tuple.tupleExact _) (wpAny_newObj_type (wpAny_bind (wpAny_pure (wpAny_pure ⟨_, rfl, wpAny_pure h⟩))) htake)
    | exact wpAny_bind (wpAny_bind (m := Builtin.Tuple.tupleExact _) (wpAny_newObj_type (wpAny_pure (wpAny_pure ⟨_, rfl, wpAny_pure h⟩)) htake))
    | exact wpAny_bind (wpAny_bind (m := Builtin.Tuple.tupleExact _) (wpAny_newObj_type (wpAny_pure ⟨_, rfl, wpAny_pure h⟩) htake))
end
section
variable {X : Cx} {TT : List (Addr × Str)} {E : XK}
def tRevT (K : PySem.W.Frag) (te : TE) : TE := fun σ H Q => te σ H fun x H1 => ∃ a xs, x = .ref a ∧ SqT K H1 a xs ∧ NewT H1 Q xs.reverse
theorem pe_revT {e : Expr} {te : TE} {k : Nat} {p1 p2 p3 pos : Pos} (he : PE X e te) : PE X (.Subscript e (.Slice none none (some (.UnaryOp .USub (.Constant (.int 1) k p1) p2)) p3) pos) (tRevT X.K te) := by
  refine ⟨fun pins s σ H Q I h => ?_⟩
  refine Subscript_ (thn (he.run pins s σ H _ I h) fun v s1 ⟨x, H1, I1, r1, q1⟩ => ?_)
  obtain ⟨a, xs, ex, hx, q⟩ := q1
  subst ex
  cases r1
  have hst : PO X (some (.UnaryOp .USub (.Constant (.int 1) k p1) p2)) (tPart (tUn (rU fun i => .int (-i)) (tC (.int 1)))) := po_some (pe_un un_neg pe_int)
  refine wpAny_Slice (thn (po_none.run pins s1 σ H1 (fun o H2 => o = none ∧ H2 = H1) I1 ⟨rfl, rfl⟩) fun vl s2 ⟨l, H2, I2, pl, el, e2⟩ => ?_)
  subst el e2
  refine thn (po_none.run pins s2 σ H2 (fun o H3 => o = none ∧ H3 = H2) I2 ⟨rfl, rfl⟩) fun vu s3 ⟨u, H3, I3, pu, eu, e3⟩ => ?_
  subst eu e3
  refine thn (hst.run pins s3 σ H3 (fun o H4 => o = some (-1) ∧ H4 = H3) I3 ⟨1, rfl, -1, rfl, rfl, rfl⟩) fun vs s4 ⟨o, H4, I4, ps, eo, e4⟩ => ?_
  subst eo e4
  have I5 : Inv X pins σ H4 { s4 with heap := s4.heap.push { cls := .type "slice", data := .fields #[vl, vu, vs] } } := I4.kept (t' := s4.toks) fun b ob q => Heap.get?_push_of_some _ q
  obtain ⟨its, r, ht, hz⟩ := I5.tuple hx
  have hlen := r.length
  cases pl
  cases pu
  obtain ⟨tk, rfl⟩ : ∃ tk, vs = .int (-1) tk := by cases ps; exact ⟨_, rfl⟩
  show wpAny (model X.prog X.w) X.A (subscriptTail e (.Slice none none (some (.UnaryOp .USub (.Constant (.int 1) k p1) p2)) p3) (.ref a) (.ref s4.heap.objs.size)) (EP X pins σ Q) X.xe { s4 with heap := s4.heap.push { cls := .type "slice", data := .fields #[.none, .none, .int (-1) tk] } }
  refine tail_any (ops := [.ref a, .ref s4.heap.objs.size]) ht.typeIs (PyProof.Rows.slot_tuple_getitem.lookup) ?_ (by with_unfolding_all rfl)
  refine getItem_tuple_rev ht (Heap.IsSliceOf.new _ .none .none (.int (-1) tk)) ?_ (by rw [List.size_toArray]; omega)
  have e5 : (its.toArray.toList.reverse).toArray = its.reverse.toArray := by simp
  exact laidN I5 (by rw [List.length_reverse]; exact hz) r.reverse q
def gRev : Dat → (Dat → Prop) → Prop
  | .tup ds, P => P (.tup ds.reverse)
  | _, _ => False
theorem de_rev {e : Expr} {f : GDE S} {k : Nat} {p1 p2 p3 pos : Pos} (he : PE X e (LE X.K TT E f)) : PE X (.Subscript e (.Slice none none (some (.UnaryOp .USub (.Constant (.int 1) k p1) p2)) p3) pos) (LE X.K TT E (dUn gRev f)) := (pe_revT he).imp fun σ H Q ⟨ρ, n, P, R, r, q, k, x⟩ => ⟨ρ, n, _, R, r, q, fun d m v H1 z e s => by
  unfold gRev at z
  split at z
  · obtain ⟨a, xs, rfl, h1, l1, s1⟩ := s.tup_iff
    exact ⟨a, xs, rfl, h1, fun p o hp ho => k _ m _ _ z (e.trans (.grow (.new hp))) (.newT hp ho (by rw [List.length_reverse]; exact l1) s1.reverse)⟩
  · exact z.elim, x⟩
/-! ### {}, {"a": e} -/
theorem de_dict0 {pos : Pos} : PE X (.Dict [] [] pos) (LE (S := S) X.K TT E (dC (.dct [] []))) := pe_dnewK.imp fun σ H Q ⟨ρ, n, P, R, r, q, k, x⟩ p hp => k _ n _ _ q (.grow (.new hp)) (.dct (xs := []) (.inl upd_same) rfl .nil)
theorem de_dict1 {key : Str} {j : Nat} {p1 pos : Pos} {e : Expr} {d : Dat} (he : PE X e (tC (vOf d))) (fd : flatK d = true) (hs : ∀ (n : S) H, Sees X.K n H (vOf d) d) : PE X (.Dict [some (.Constant (.str key) j p1)] [e] pos) (LE (S := S) X.K TT E (dC (.dct [.inr key] [d]))) := (pe_disp (pps_cons pe_str he pps_nil) rfl rfl (by simp) (by simp)).imp fun σ H Q ⟨ρ, n, P, R, r, q, k, x⟩ p hp => by
  refine ⟨upd_same, [(.inr key, vOf d)], rfl, by simp, ?_⟩
  rw [upd_upd]
  exact k _ n _ _ q (.grow (.new hp)) (.dct (ks := [.inr key]) (xs := [vOf d]) (.inl upd_same) rfl (.cons (hs n _) .nil))
end
end Aim

namespace Aim
open PySem PySem.Spec PyProof.Rows L2
open LamX (TabB Tabs CodeO)
open Stt (cnt sto)
variable {S : Type} [Stt S]
/-! ### enumerate of a list or a tuple, from any number on -/
/-- what is walked: a sequence at a, told by sq; its iterators by iter -/
structure Src (P : Program) (w : World) (K : PySem.W.Frag) (a : Addr) (T : String) (sq : Hp → List V → Prop) (iter : Heap → Addr → Nat → Prop) (is : Heap → Array Value → Prop) : Prop where
  get : ∀ {X : Cx} {pins : List (Addr × Obj)} {σ : L2.St} {H : Hp} {s : Shared} {xs : List V}, X.prog = P → X.w = w → X.K = K → Inv X pins σ H s → sq H xs → ∃ its : List Value, Vals xs its ∧ is s.heap its.toArray ∧ xs.length ≤ sizeLine
  inj : ∀ {h : Heap} {xs ys : Array Value}, is h xs → is h ys → xs = ys
  cls : ∀ {h : Heap} {xs : Array Value}, is h xs → ∃ o, h.get? a = some o ∧ o.cls = .type T
  draws : ∀ {A : Around} (it : Addr) (xs : Array Value), A.handled = none → a ≠ it → Draws P w A it [it, a] xs.size (fun i v => xs[i]? = some v) (fun i h => iter h it i ∧ is h xs)
  fin : ∀ {A : Around} {s : Shared} {it : Addr} {i : Nat} {xs : Array Value} {Q E : Value → Shared → Prop}, A.handled = none → iter s.heap it i → is s.heap xs → xs.size ≤ i → (∀ h' e, Heap.ExtBut it s.heap h' → (∃ o, h'.get? e = some o ∧ o.cls = .type "StopIteration") → E (.ref e) { s with heap := h' }) → wpAny (model P w) A (Builtin.SmallTypes.nextOf (.ref it)) Q E s
  obj : ∀ {h : Heap} {it : Addr} {i : Nat}, iter h it i → ∃ o vs, h.get? it = some o ∧ o.cls ≠ .type T ∧ o.data = .fields vs
  keep : ∀ {h h' : Heap} {it : Addr} {i : Nat}, iter h it i → (∀ o, h.get? it = some o → h'.get? it = some o) → iter h' it i
def IteC (sq : Hp → List V → Prop) (k : Int) : It :=
  ⟨fun i H => ∃ (xs : List V) (x : V), sq H xs ∧ xs[i]? = some x, fun i H v H' => ∃ (T : Addr) (o : Obj) (x : V), v = .ref T ∧ H T = none ∧ o.dict = none ∧ H' = upd H T (.frz o (.tup [.int (k + (i : Nat)), x])) ∧ ∀ xs, sq H xs → xs[i]? = some x, fun i H => ∃ xs : List V, sq H xs ∧ xs.length ≤ i⟩
section
variable {P : Program} {w : World} {K : PySem.W.Frag} {a : Addr} {T : String} {sq : Hp → List V → Prop} {iter : Heap → Addr → Nat → Prop} {is : Heap → Array Value → Prop}
theorem turn_enumC (S : Src P w K a T sq iter is) (hT : T ≠ "enumerate") (k : Int) {elts : List Expr} {kk : Nat} {tpos : Pos} (e it : Addr) :
    Turn P w K (.Tuple elts kk tpos) (IteC sq k) [e, it] e (fun i h => (∃ old, IsEnum h e it (k + (i : Nat)) old) ∧ iter h it i ∧ e ≠ it) where
  mem := by simp
  obj := fun i h st b hb => by
    obtain ⟨⟨old, he⟩, hi, _⟩ := st
    obtain ⟨o, vs, ho, _, hd⟩ := S.obj hi
    have e' : b = e ∨ b = it := by simpa using hb
    rcases e' with z | z
    · rw [z]; exact ⟨_, he, fun v q => nomatch q⟩
    · rw [z]; exact ⟨o, ho, fun v q => by rw [hd] at q; cases q⟩
  keep := fun i h h' st q => by
    obtain ⟨⟨old, he⟩, hi, hne⟩ := st
    exact ⟨⟨old, q e (by simp) _ he⟩, S.keep hi fun o z => q it (by simp) o z, hne⟩
  item := by
    intro X hP hw hK hc i pins s σ H E I hf st hg
    subst hP hw hK
    obtain ⟨⟨old, he⟩, hit, hne⟩ := st
    obtain ⟨xs, x, hq, hx⟩ := hg
    obtain ⟨its, rv, p, hz⟩ := S.get rfl rfl rfl I hq
    obtain ⟨u, hu, ru⟩ := rv.get hx
    have hel : e < s.heap.objs.size := Heap.lt_size he
    obtain ⟨oi, vi, hoi, hci, _⟩ := S.obj hit
    have hil : it < s.heap.objs.size := Heap.lt_size hoi
    obtain ⟨oa, hoa, hca⟩ := S.cls p
    have ai : a ≠ it := fun z => by rw [z, hoi] at hoa; cases hoa; exact hci hca
    have ae : a ≠ e := fun z => by rw [z, he] at hoa; cases hoa; exact hT (Value.type.inj hca).symm
    have D := S.draws (A := X.A.in1) it its.toArray (I.ok.hd hc) ai
    have hlt : i < its.toArray.size := by
      rw [List.size_toArray]
      exact (List.getElem?_eq_some_iff.mp hu).1
    refine wpAny_pyNext_enum_itemC D he ⟨hit, p⟩ hlt hne (by simp [hne, Ne.symm ae]) fun y h' tk hy ho st' hT' hsz hk => ?_
    have hy2 : y = u := by
      rw [List.getElem?_toArray, hu] at hy
      exact (Option.some.inj hy).symm
    subst hy2
    refine ⟨_, rfl, wpAny_letOwnedTupleGo_enum (s := { s with heap := h', toks := tk + 1 }) ho fun h'' he' sb => ?_⟩
    have hT2 := (sb.2 _ (Nat.ne_of_gt hel)).trans hT'
    have new : ObjOk X.prog X.w (upd H s.heap.objs.size (.frz { cls := .type "tuple", data := .seq #[.int (k + (i : Nat)) tk, y] } (.tup [.int (k + (i : Nat)), x]))) h'' s.heap.objs.size (.frz { cls := .type "tuple", data := .seq #[.int (k + (i : Nat)) tk, y] } (.tup [.int (k + (i : Nat)), x])) :=
      ⟨hT2, by show 2 ≤ sizeLine; decide, [.int (k + (i : Nat)) tk, y], .cons ⟨_, rfl⟩ (.cons ru .nil), ⟨_, hT2, rfl, _, rfl⟩⟩
    have I1 : Inv X pins σ (upd H s.heap.objs.size (.frz { cls := .type "tuple", data := .seq #[.int (k + (i : Nat)) tk, y] } (.tup [.int (k + (i : Nat)), x]))) { s with heap := h'', toks := tk + 1 } :=
      I.turnedNew (ch := [e, it]) (fun b ob hb q => (sb.2 b (fun z => hb (by simp [z]))).trans (hk b ob (fun z => hb (by simp [z])) (fun z => hb (by simp [z])) q)) hf (Nat.le_refl _) new
    refine ⟨.ref s.heap.objs.size, _, I1, rfl, ⟨_, _, x, rfl, I.hok.fresh (Nat.le_refl _), rfl, rfl, fun ys hys => ?_⟩, ⟨⟨y, ?_⟩, S.keep st'.1 fun o q => (sb.2 it (Ne.symm hne)).trans q, hne⟩, fun b hb => ?_⟩
    · obtain ⟨its2, rv2, p2, _⟩ := S.get rfl rfl rfl I hys
      have := S.inj p2 p
      have e3 : its2 = its := by simpa using congrArg Array.toList this
      rw [e3] at rv2
      rw [rv2.inj rv]
      exact hx
    · have e1 : k + ((i + 1 : Nat) : Int) = k + (i : Nat) + 1 := by push_cast; omega
      rw [e1]
      exact he'
    · have e' : b = e ∨ b = it := by simpa using hb
      have hb' : b < s.heap.objs.size := by
        rcases e' with z | z
        · rw [z]; exact hel
        · rw [z]; exact hil
      rw [upd_ne (Nat.ne_of_lt hb')]
      exact (hf b hb).1
  done := by
    intro X hP hw hK hc i pins s σ H E I hf st hg
    subst hP hw hK
    obtain ⟨⟨old, he⟩, hit, hne⟩ := st
    obtain ⟨xs, hq, hx⟩ := hg
    obtain ⟨its, rv, p, hz⟩ := S.get rfl rfl rfl I hq
    obtain ⟨f0, f1, f2, f3, f4, f5⟩ := hf it (by simp)
    have hl := rv.length
    obtain ⟨oi, vi, hoi, hci, _⟩ := S.obj hit
    obtain ⟨oa, hoa, hca⟩ := S.cls p
    have ai : a ≠ it := fun z => by rw [z, hoi] at hoa; cases hoa; exact hci hca
    have D0 := S.draws (A := X.A.in1) it its.toArray (I.ok.hd hc) ai
    have D : Draws X.prog X.w X.A.in1 it [it, a] i (fun _ _ => True) (fun j h => j = i ∧ iter h it i ∧ is h its.toArray) :=
      ⟨fun j h z => let ⟨o, _, q, _⟩ := S.obj z.2.1; ⟨o, q⟩, fun j h h' z q => ⟨z.1, D0.frame i h h' z.2 q⟩, fun j s' Q E lt z => absurd z.1 (Nat.ne_of_lt lt), fun s' Q E z hE => S.fin (I.ok.hd hc) z.2.1 z.2.2 (by simp only [List.size_toArray]; omega) hE⟩
    exact wpAny_pyNext_enum_endD D he ⟨rfl, hit, p⟩ fun h' eb => ⟨rfl, I.turned (t' := s.toks) (fun b o hb q => eb b o hb q) f0 f1 f3 f4 f5⟩
  self := fun A i s Q E st h => by
    obtain ⟨⟨_, he⟩, _⟩ := st
    exact wpAny_pyIter_enum he h
end
theorem src_list {P : Program} {w : World} {K : PySem.W.Frag} (a : Addr) : Src P w K a "list" (fun H xs => SqL K H a xs) (fun h it i => h.IsListIter it a i) (fun h xs => h.IsList a xs) where
  get := fun hP hw hK I hq => by
    subst hP hw hK
    obtain ⟨its, rv, p, z⟩ := I.list hq
    exact ⟨its, rv, p.isList, z⟩
  inj := fun h h' => by
    obtain ⟨o, e, _, n, d⟩ := h
    obtain ⟨o', e', _, n', d'⟩ := h'
    rw [e] at e'; cases e'
    rw [d] at d'
    injection d'
  cls := fun h => let ⟨o, e, c, _⟩ := h; ⟨o, e, c⟩
  draws := fun it xs hh hne => Draws.list hh it a hne xs
  fin := fun hh hit p hx hE => wpAny_nextOf_list_end hh hit p (by simp [hx]) hE
  obj := fun ⟨o, ho, hc, hd⟩ => ⟨o, _, ho, by rw [hc]; decide, hd⟩
  keep := fun h q => h.at q
theorem src_tup {P : Program} {w : World} {K : PySem.W.Frag} (a : Addr) : Src P w K a "tuple" (fun H xs => SqT K H a xs) (fun h it i => h.IsTupleIter it a i) (fun h xs => h.IsTuple a xs) where
  get := fun hP hw hK I hq => by
    subst hP hw hK
    obtain ⟨its, rv, p, z⟩ := I.tuple hq
    exact ⟨its, rv, p, z⟩
  inj := fun h h' => by
    obtain ⟨o, e, _, n, d⟩ := h
    obtain ⟨o', e', _, n', d'⟩ := h'
    rw [e] at e'; cases e'
    rw [d] at d'
    injection d'
  cls := fun h => let ⟨o, e, c, _⟩ := h; ⟨o, e, c⟩
  draws := fun it xs hh hne => Draws.tuple hh it a hne xs
  fin := fun hh hit p hx hE => wpAny_nextOf_tuple_end hh hit p (by simp [hx]) hE
  obj := fun ⟨o, ho, hc, hd⟩ => ⟨o, _, ho, by rw [hc]; decide, hd⟩
  keep := fun h q => h.at q

set_option maxHeartbeats 1000000 in
theorem meets_enumerate_new1 {v : Value} {o : Obj} {H : Heap → Prop} (B : Begins v o H) :
    Meets (Builtin.«enumerate.__new__» ⟨[.type "enumerate", v], []⟩) (fun _ R s => H s.heap ∧
      R (.ok (.ret (.ref (s.heap.push o).objs.size))) { s with heap := (s.heap.push o).push { cls := .type "enumerate", data := .fields #[.none, .bool false, .ref s.heap.objs.size, rawInt 0, .none, .none] } }) :=
  .of_wp fun prog w A R s h => by
    obtain ⟨hp, g, d, tk, os⟩ := s; obtain ⟨h1, h⟩ := h
    have hsub := sub_enumerate
    have q1 : ∀ {A' : Around} {E : Value → Shared → Prop} {Q : Value → Shared → Prop}, Q (.ref hp.objs.size) ⟨hp.push o, g, d, tk, os⟩ → wpAny (model prog w) A' (pyIter v) Q E ⟨hp, g, d, tk, os⟩ :=
      fun q => B.iter prog w _ _ ⟨hp, g, d, tk, os⟩ _ h1 q
    wp_walk using q1
    refine wpAny_stack_any fun st => wpAny_pure ?_
    split
    · rename_i c _ _ _ _ _
      cases (c == Value.type "enumerate")
      · wp_walk using q1
        exact ⟨_, rfl, h⟩
      · wp_walk using q1
        exact ⟨_, rfl, h⟩
    · wp_walk using q1
      exact ⟨_, rfl, h⟩
section
variable {prog : Program} {w : World} {A : Around} {E : Value → Shared → Prop} {s : Shared}
theorem enum_begins1 {v : Value} {o : Obj} {H : Heap → Prop} {Q : Value → Shared → Prop} (B : Begins v o H) (h1 : H s.heap)
    (h : ∀ h', IsEnum h' (s.heap.objs.size + 1) s.heap.objs.size 0 .none → h'.get? s.heap.objs.size = some o → h'.objs.size = s.heap.objs.size + 2 →
      (∀ b o, s.heap.get? b = some o → h'.get? b = some o) → Q (.ref (s.heap.objs.size + 1)) { s with heap := h' }) :
    wpAny (model prog w) A (call (.type "enumerate") [v]) Q E s := by
  refine callType_new F.called_enumerate (by decide) (F.typeCall_enumerate_1 _) (F.newCall_enumerate_1 _) (fun obj => F.args_object_init_2 obj _) F.entry_enumerate_new
    (meets_enumerate_new1 B) ⟨h1, ?_⟩
  have hz : (s.heap.push o).objs.size = s.heap.objs.size + 1 := Heap.size_push ..
  show _ ∧ _
  rw [hz]
  have he : IsEnum ((s.heap.push o).push { cls := .type "enumerate", data := .fields #[.none, .bool false, .ref s.heap.objs.size, rawInt 0, .none, .none] }) (s.heap.objs.size + 1) s.heap.objs.size 0 .none := by
    have := Heap.get?_push_size (s.heap.push o) (o := { cls := .type "enumerate", data := .fields #[.none, .bool false, .ref s.heap.objs.size, rawInt 0, .none, .none] }) rfl
    rw [hz] at this; exact this
  refine ⟨⟨_, he, rfl⟩, h _ he (Heap.get?_push_of_some _ (Heap.get?_push_size _ B.free)) (by rw [Heap.size_push, hz]) fun b o x => Heap.get?_push_of_some _ (Heap.get?_push_of_some _ x)⟩
end
/-- what enumerate is given: a list or a tuple, a start -/
def enK : List V → (Addr → Int → Prop) → Prop
  | [.ref a], P => P a 0
  | [.ref a, .int j], P => P a j ∧ -(2 ^ 63) ≤ j ∧ j < 2 ^ 63
  | _, _ => False
def iEnumK (K : PySem.W.Frag) (ta : TA) : TI := fun σ H R => ta σ H fun vs H1 => enK vs fun a j => (∃ xs, SqL K H1 a xs ∧ R (IteC (fun H => SqL K H a) j) H1) ∨ ∃ xs, SqT K H1 a xs ∧ R (IteC (fun H => SqT K H a) j) H1
theorem enumK_end {X : Cx} {tg : Expr} {elts : List Expr} {kk : Nat} {tpos : Pos} {pins : List (Addr × Obj)} {σ : L2.St} {H1 : Hp} {s1 : Shared} {h' : Heap} {R : It → Hp → Prop} {E : Value → Shared → Prop} {a : Addr} {T : String} {sq : Hp → List V → Prop} {iter : Heap → Addr → Nat → Prop} {is : Heap → Array Value → Prop}
    (S : Src X.prog X.w X.K a T sq iter is) (hT : T ≠ "enumerate") (j : Int) (I1 : Inv X pins σ H1 s1) (he : IsEnum h' (s1.heap.objs.size + 1) s1.heap.objs.size j .none) (hit : iter h' s1.heap.objs.size 0) (hk : ∀ b o, s1.heap.get? b = some o → h'.get? b = some o) (q : R (IteC sq j) H1) :
    wpAny (model X.prog X.w) X.A (pyIter (.ref (s1.heap.objs.size + 1))) (PIE X pins σ (.Tuple elts kk tpos) R) E { s1 with heap := h' } := by
  refine wpAny_pyIter_enum he ?_
  have I2 : Inv X pins σ H1 { s1 with heap := h' } := I1.kept (t' := s1.toks) hk
  refine ⟨s1.heap.objs.size + 1, [s1.heap.objs.size + 1, s1.heap.objs.size], _, _, H1, rfl, I2, turn_enumC S hT j (s1.heap.objs.size + 1) s1.heap.objs.size, ⟨⟨.none, by simpa using he⟩, hit, Nat.succ_ne_self _⟩, fun b hb => ?_, q⟩
  have e' : b = s1.heap.objs.size + 1 ∨ b = s1.heap.objs.size := by simpa using hb
  have hle : s1.heap.objs.size ≤ b := by
    rcases e' with z | z
    · rw [z]; exact Nat.le_add_right _ _
    · rw [z]; exact Nat.le_refl _
  exact I1.fpOk hle (I1.hok.fresh hle)
theorem pi_enumK {X : Cx} {e : Expr} {es : List Expr} {ta : TA} {p pos tpos : Pos} {elts : List Expr} {kk : Nat} (hg : Gl X "enumerate") (hm : X.mg "enumerate" = none) (ha : PA X (e :: es) ta) (hs : starEach (e :: es) X.env = (false, eval e X.env) :: starEach es X.env := by rfl) (hp : (backTo pos (starEach es X.env)).any (·.1) = false := by rfl) :
    PI X (.Tuple elts kk tpos) (.Call (.Name "enumerate" p) (e :: es) [] pos) (iEnumK X.K ta) := by
  refine ⟨fun pins s σ H R I h => ?_⟩
  refine Call_ (ld_blt I hg hm boot_enumerate (PyProof.Rows.callWith_type1 (thn (ha.run pos pins s σ H _ I h) fun us s1 ⟨vs, H1, I1, r1, q1⟩ => ?_) hs hp))
  replace q1 : enK vs _ := q1
  unfold enK at q1
  split at q1
  · rename_i a
    cases r1 with
    | cons r rr =>
      cases rr
      cases r
      rcases q1 with ⟨xs, hq, q⟩ | ⟨xs, hq, q⟩
      · obtain ⟨its, rv, p', hz⟩ := I1.list hq
        exact enum_begins1 (begins_list a its.toArray) p'.isList fun h' he hit hsz hk => enumK_end (tg := e) (src_list a) (by decide) 0 I1 he ⟨_, hit, rfl, rfl⟩ hk q
      · obtain ⟨its, rv, p', hz⟩ := I1.tuple hq
        exact enum_begins1 (begins_tuple a its.toArray) p' fun h' he hit hsz hk => enumK_end (tg := e) (src_tup a) (by decide) 0 I1 he ⟨_, hit, rfl, rfl⟩ hk q
  · rename_i a j
    cases r1 with
    | cons r rr =>
      cases rr with
      | cons r2 rr =>
        cases rr
        cases r
        obtain ⟨t, rfl⟩ := r2
        obtain ⟨q1, b0, b1⟩ := q1
        rcases q1 with ⟨xs, hq, q⟩ | ⟨xs, hq, q⟩
        · obtain ⟨its, rv, p', hz⟩ := I1.list hq
          exact enum_begins (begins_list a its.toArray) p'.isList b0 b1 fun h' he hit hsz hk => enumK_end (tg := e) (src_list a) (by decide) j I1 he ⟨_, hit, rfl, rfl⟩ hk q
        · obtain ⟨its, rv, p', hz⟩ := I1.tuple hq
          exact enum_begins (begins_tuple a its.toArray) p' b0 b1 fun h' he hit hsz hk => enumK_end (tg := e) (src_tup a) (by decide) j I1 he ⟨_, hit, rfl, rfl⟩ hk q
  · exact q1.elim
/-! ### by data -/
section
variable {X : Cx} {TT : List (Addr × Str)} {E : XK} {K : PySem.W.Frag}
def enD : List Dat → (List Dat → Prop) → Prop
  | [.lst xs], P => P (pairs (numL 0 xs.length) xs)
  | [.tup xs], P => P (pairs (numL 0 xs.length) xs)
  | [.lst xs, .int j], P => P (pairs (numL j xs.length) xs) ∧ -(2 ^ 63) ≤ j ∧ j < 2 ^ 63
  | [.tup xs, .int j], P => P (pairs (numL j xs.length) xs) ∧ -(2 ^ 63) ≤ j ∧ j < 2 ^ 63
  | _, _ => False
def diEnumK (f : GDA S) : GDI S := fun ρ n P R => f ρ n (fun ds m => enD ds fun xs => P xs m) R
theorem items_enumC {sq : Hp → List V → Prop} {j : Int} {xs : List V} {ds : List Dat} {m : S} {H : Hp} (h1 : ∀ {n' H'}, Fra K TT m H n' H' → sq H' xs) (s1 : SeesL K m H xs ds) (l : xs.length ≤ sizeLine) : Items K TT (IteC sq j) m H (pairs (numL j ds.length) ds) := by
  have hn : (pairs (numL j ds.length) ds).length = xs.length := by rw [pairs_len, numL_len, s1.length]; omega
  refine ⟨by rw [hn]; exact l, fun i n' H' hi g => ?_, fun n' H' g => ⟨xs, h1 g, by rw [hn]; exact Nat.le_refl _⟩, fun i n' H' x H2 d hd g y => ?_⟩
  · rw [hn] at hi
    exact ⟨xs, xs[i], h1 g, by simp [hi]⟩
  obtain ⟨hi, _⟩ := List.getElem?_eq_some_iff.mp hd
  obtain ⟨T, o, x', e1, e2, e6, e3, e5⟩ := y
  have e5 := e5 xs (h1 g)
  obtain ⟨d1, d2, f1, f2, rfl⟩ := pairs_get hd
  obtain ⟨d2', g2, t2⟩ := s1.get e5
  rw [f2] at g2
  cases g2
  rw [numL_get _ _ _ (by rw [s1.length] at hn; omega)] at f1
  cases f1
  refine ⟨by rw [e3]; exact .new e2, fun G gG q => pair_sees e2 e1 e6 e3 q (.int _) (t2.mono gG)⟩
theorem di_enumK {tg e : Expr} {fr : GDA S} (h : PI X tg e (iEnumK X.K (LA X.K TT E fr))) : PI X tg e (LI X.K TT E (diEnumK fr)) := h.imp fun σ H R ⟨ρ, n, P, Rx, r, f, k, x⟩ => ⟨ρ, n, _, Rx, r, f, fun ds m vs H1 q e s => by
  unfold enD at q
  split at q
  · cases s with
    | cons s1 s =>
      cases s
      obtain ⟨p1, xs, rfl, a1, a2, a3⟩ := s1.lst_iff
      exact .inl ⟨xs, a1, k _ m _ H1 q e (items_enumC (fun g => g.sqL a1) a3 a2)⟩
  · cases s with
    | cons s1 s =>
      cases s
      obtain ⟨p1, xs, rfl, a1, a2, a3⟩ := s1.tup_iff
      exact .inr ⟨xs, a1, k _ m _ H1 q e (items_enumC (fun g => g.sqT a1) a3 a2)⟩
  · cases s with
    | cons s1 s =>
      cases s with
      | cons s2 s =>
        cases s
        cases s2
        obtain ⟨p1, xs, rfl, a1, a2, a3⟩ := s1.lst_iff
        exact ⟨.inl ⟨xs, a1, k _ m _ H1 q.1 e (items_enumC (fun g => g.sqL a1) a3 a2)⟩, q.2⟩
  · cases s with
    | cons s1 s =>
      cases s with
      | cons s2 s =>
        cases s
        cases s2
        obtain ⟨p1, xs, rfl, a1, a2, a3⟩ := s1.tup_iff
        exact ⟨.inr ⟨xs, a1, k _ m _ H1 q.1 e (items_enumC (fun g => g.sqT a1) a3 a2)⟩, q.2⟩
  · exact q.elim, x⟩
/-- the signs of a text -/
def signs (x : Str) : List Dat := x.cps.toList.map fun c => .str ⟨#[c]⟩
def strOf : Dat → (List Dat → Prop) → Prop
  | .str x, P => P (signs x)
  | _, _ => False
def diStr (f : GDE S) : GDI S := fun ρ n P R => f ρ n (fun d m => strOf d fun ds => P ds m) R
theorem di_str {tg a : Expr} {fa : GDE S} (h : PE X a (LE X.K TT E fa)) : PI X tg a (LI X.K TT E (diStr fa)) := (pi_str h).imp fun σ H R ⟨ρ, n, P, Rx, r, f, k, x⟩ => ⟨ρ, n, _, Rx, r, f, fun d m v H1 q e s => by
  unfold strOf at q
  split at q
  · rename_i z
    cases s with
    | str _ b =>
      have hl : (signs z).length = z.cps.size := by simp [signs]
      refine ⟨z, rfl, k _ m _ H1 q e ⟨by rw [hl]; exact b.1, fun i n' H' hi g => by rw [hl] at hi; exact hi, fun n' H' g => by rw [hl]; exact Nat.le_refl _, fun i n' H' y H2 d hd g w => ?_⟩⟩
      obtain ⟨e1, c, e2, rfl⟩ := w
      subst e1
      refine ⟨.refl _, fun G gG _ => ?_⟩
      have e3 : (signs z)[i]? = some (.str ⟨#[c]⟩) := by
        unfold signs
        rw [List.getElem?_map, Array.getElem?_toList, e2]
        rfl
      rw [hd] at e3
      cases e3
      obtain ⟨h1, h2⟩ := Array.getElem?_eq_some_iff.mp e2
      have h3 := Array.all_eq_true.mp b.2 i h1
      rw [h2] at h3
      exact .str _ ⟨by show 1 ≤ sizeLine; decide, by simpa using h3⟩
  · exact q.elim, x⟩
end
end Aim

namespace Aim
open PySem PySem.Spec PyProof.Rows L2
/-! ### texts joined and split -/
theorem strB_iff {x : Str} : StrB x ↔ x.length ≤ sizeLine ∧ ∀ c ∈ TL.tl x, c < 0x110000 := by
  unfold StrB
  refine and_congr_right fun _ => ?_
  rw [← Array.all_toList, List.all_eq_true]
  exact ⟨fun h c hc => of_decide_eq_true (h c hc), fun h c hc => decide_eq_true (h c hc)⟩
theorem joinL_mem {y : List Nat} {c : Nat} : ∀ {parts : List (List Nat)}, c ∈ TL.joinL y parts → c ∈ y ∨ ∃ p ∈ parts, c ∈ p
  | [], h => by cases h
  | [p], h => .inr ⟨p, by simp, h⟩
  | p :: q :: r, h => by
    rcases List.mem_append.mp (show c ∈ p ++ (y ++ TL.joinL y (q :: r)) from h) with h | h
    · exact .inr ⟨p, by simp, h⟩
    · rcases List.mem_append.mp h with h | h
      · exact .inl h
      · rcases joinL_mem h with h | ⟨p', hp, h⟩
        · exact .inl h
        · exact .inr ⟨p', List.mem_cons_of_mem _ hp, h⟩
theorem mem_joinL {y : List Nat} {c : Nat} {p : List Nat} (hc : c ∈ p) : ∀ {parts : List (List Nat)}, p ∈ parts → c ∈ TL.joinL y parts
  | [], h => by cases h
  | [q], h => by rw [List.mem_singleton.mp h] at hc; exact hc
  | q :: q' :: r, h => by
    show c ∈ q ++ (y ++ TL.joinL y (q' :: r))
    rcases List.mem_cons.mp h with h | h
    · exact List.mem_append.mpr (.inl (h ▸ hc))
    · exact List.mem_append.mpr (.inr (List.mem_append.mpr (.inr (mem_joinL hc h))))
/-- the signs of the parts are the text's -/
theorem split_signs {x y z : Str} (h : z ∈ Txt.split x y) {c : Nat} (hc : c ∈ TL.tl z) : c ∈ TL.tl x := by
  rw [← StrLaws.join_split x y, TL.tl_join]
  exact mem_joinL hc (List.mem_map_of_mem h)
theorem strB_split {x y : Str} (h : StrB x) : ∀ z ∈ Txt.split x y, StrB z := fun z hz => by
  rw [strB_iff] at h ⊢
  exact ⟨Nat.le_trans (part_short hz) h.1, fun c hc => h.2 c (split_signs hz hc)⟩
theorem strB_join {a : Str} {bs : List Str} (ha : StrB a) (hb : ∀ b ∈ bs, StrB b) (hl : (bs.map (·.length)).sum + bs.length * a.length ≤ 16777216) : StrB (Txt.join a bs) := by
  rw [strB_iff, TL.join_eq]
  refine ⟨Nat.le_trans (StrLaws.join_length_le a bs) (by show _ ≤ sizeLine; rw [show sizeLine = 16777216 by decide +kernel]; exact hl), fun c hc => ?_⟩
  rw [TL.tl_join] at hc
  rcases joinL_mem hc with h | ⟨p, hp, h⟩
  · exact (strB_iff.mp ha).2 c h
  · obtain ⟨b, hb', rfl⟩ := List.mem_map.mp hp
    exact (strB_iff.mp (hb b hb')).2 c h
theorem sum_le {bs : List Str} {k : Nat} (h : ∀ b ∈ bs, b.length ≤ k) : (bs.map (·.length)).sum ≤ bs.length * k := by
  induction bs with
  | nil => simp
  | cons b r ih =>
    have h1 := h b (by simp)
    have h2 := ih fun z hz => h z (by simp [hz])
    simp only [List.map_cons, List.sum_cons, List.length_cons, Nat.add_mul, Nat.one_mul]
    omega
theorem split_two {x y : Str} : (Txt.split x y).length ≤ x.length + 2 := split_le x y
end Aim

namespace Aim
open PySem PySem.Spec PyProof.Rows L2
open LamX (TabB Tabs CodeO)
open Stt (cnt sto)
variable {S : Type} [Stt S]
/-! ### calls by keywords -/
/-- a def's promise, its text beside it -/
structure DfW (P : Program) (w : World) (K : PySem.W.Frag) (mg : Str → Option Value) (base : Heap) (G : Bool) (k : Nat) (x : Str) (st : Stmt) (ps : List Str) (sp : Sp) : Prop where
  ex : ∃ (f : Addr) (fd : FuncData), L2.Fun K x x st f fd ∧ Rn P w K mg base G k f fd ps sp ∧ mg x = some (.ref f) ∧ L2.Binds K fd ps []
/-- .. called with all its parameters by name -/
structure DfK (P : Program) (w : World) (K : PySem.W.Frag) (mg : Str → Option Value) (base : Heap) (G : Bool) (k : Nat) (x : Str) (ks : List Str) (sp : Sp) : Prop where
  ex : ∃ (f : Addr) (fd : FuncData) (ps : List Str), Rn P w K mg base G k f fd ps sp ∧ mg x = some (.ref f) ∧ PySem.W.keepIn K (.ref f) = true ∧ ∀ (s : Shared) (us : List Value), us.length = ps.length → BindsTo s fd ⟨[], ks.zip us⟩ (ps.zip us)
section
variable {P : Program} {w : World} {K : PySem.W.Frag} {mg : Str → Option Value} {base : Heap} {TT : List (Addr × Str)} {G : Bool} {k : Nat} {x : Str} {st : Stmt} {N ps : List Str} {sp : GDSp S}
theorem DfW.df {sp : Sp} (d : DfW P w K mg base G k x st ps sp) : Df P w K mg base G k x sp := by
  obtain ⟨f, fd, F, R, hm, hb⟩ := d.ex
  exact ⟨f, fd, ps, R, hm, F.kp, hb⟩
theorem DfW.kw {sp : Sp} {ks : List Str} (d : DfW P w K mg base G k x st ps sp) (h : ∀ (kV doc pm : Value) (an : Option Addr) (cdv ct : Value) (us : List Value), us.length = ps.length → bindArgs (PySem.W.fnOf x x (defArgs st) (defBody st) (defScope st) .none kV doc pm an cdv ct) ⟨[], ks.zip us⟩ = pure (ps.zip us)) : DfK P w K mg base G k x ks sp := by
  obtain ⟨f, fd, F, R, hm, hb⟩ := d.ex
  refine ⟨f, fd, ps, R, hm, F.kp, ?_⟩
  obtain ⟨oc, od, kV, doc, pm, an, cdv, ct, osl, rfl, lk, hcd⟩ := F.ex
  exact fun s us hl => .of_eq (h kV doc pm an cdv ct us hl)
theorem dat_okW (F : Has K mg x st) (hb : ∀ f fd, L2.Fun K x x st f fd → L2.Binds K fd ps []) (S : FnScope N ps (defScope st))
    (body : ∀ (f : Addr) (cdv : Value) (A : Around) (outer : List Env) (s : Shared) (H : Hp) (E : XK), Room k (A.deeper (envOfC x (defScope st) s.heap.objs.size f cdv)) → (G = true → A.guards = some []) →
      ∃ g, PSs (cxOf (L2.CX P w) P w K mg base N x (defScope st) f cdv A outer s H E) (defBody st) (LS K TT E g) ∧ ∀ ds n PP R, sp ds n PP R → ds.length = ps.length ∧ g { nx := fun _ m => PP .non m, rt := PP, ex := R } (dstart N ds) n)
    (hl : ∀ ds n PP R, sp ds n PP R → ds.length = ps.length) : DfW P w K mg base G (k + 1) x st ps (LSp K TT sp) := by
  obtain ⟨f, fd, F, hm⟩ := F.ex
  have hbb := hb f fd F
  obtain ⟨oc, od, kV, doc, pm, an, cdv, ct, osl, e, lk, hcd⟩ := id F.ex
  have len : ∀ vs H Q E, LSp K TT sp vs H Q E → vs.length = ps.length := fun vs H Q E h => by
    obtain ⟨ds, n, PP, R, s, h, _⟩ := h
    rw [s.length]
    exact hl _ _ _ _ h
  refine ⟨f, fd, F, ⟨len, ?_⟩, hm, hbb⟩
  subst e
  exact fun {A fr s H args us vs Q E} hr hg e0 b r q => LamX.run_ofS lk hcd S hr e0 b r (len _ _ _ _ q) fun hr' => by
    obtain ⟨g, hp, z⟩ := body f cdv A fr s H E hr' hg
    obtain ⟨ds, n, PP, R, se, h, kQ, kE, kS⟩ := q
    exact ⟨_, hp, ends_of se (z ds n PP R h).2 kQ kE kS⟩
end
section
variable {X : Cx} {TT : List (Addr × Str)} {E : XK} {k j : Nat} {G : Bool} {x : Str} {sp : GDSp S} {kws : List Keyword} {fr : GDA S} {p pos kpos : Pos} {ks : List Str} {f : GDE S} {e : Expr} {nm : Option Str}
theorem dk_nil : PK X [] (LA (S := S) X.K TT E dNil) := ⟨fun pos pins s σ H Q I h => (da_nil (X := X)).run pos pins s σ H Q I h⟩
theorem _root_.L2.PK.imp {e : List Keyword} {t t' : TA} (h : PK X e t) (i : ∀ σ H Q, t' σ H Q → t σ H Q) : PK X e t' := ⟨fun p pins s σ H Q I q => h.run p pins s σ H Q I (i _ _ _ q)⟩
theorem dk_cons (he : PE X e (LE X.K TT E f)) (hr : PK X kws (LA X.K TT E fr)) : PK X (⟨nm, e, kpos⟩ :: kws) (LA X.K TT E (dCons f fr)) := (pk_cons he hr).imp fun σ H Q ⟨ρ, n, P, R, rl, f, k, x⟩ =>
  ⟨ρ, n, _, R, rl, f, fun d m v H1 q1 e1 s1 => ⟨ρ, m, _, R, rl.fre e1, q1, fun ds j vs H2 q2 e2 s2 => k (d :: ds) j (v :: vs) H2 q2 (e1.trans e2) (.cons (s1.mono e2.toFra) s2), x.mono e1⟩, x⟩
theorem de_callK (d : DfK X.prog X.w X.K X.mg X.base G k x ks (LSp X.K TT sp)) (hr : Room j X.A) (hk : k ≤ j) (hg : G = true → X.A.guards = some []) (gl : Gl X x) (hx : Passes (L2.CX X.prog X.w) X E) (hkw : PK X kws (LA X.K TT E fr))
    (hall : (backToKw pos (keywordEach kws X.env)).all (·.1.isSome) = true := by rfl) (hks : (backToKw pos (keywordEach kws X.env)).filterMap (·.1) = ks := by rfl) (hdb : (x == ("__debug__" : Str)) = false := by decide)
    (hpl : ((backTo pos (starEach [] X.env)).any (·.1) || (backToKw pos (keywordEach kws X.env)).any (·.1.isNone)) = false := by rfl) : PE X (.Call (.Name x p) [] kws pos) (LE (S := S) X.K TT E (dCall sp fr)) := by
  obtain ⟨f, fd, ps, F, hm, hkp, hb⟩ := d.ex
  refine ⟨fun pins s σ H Q I h => wpAny_Call_Name_kw (ld_glob I gl hm ?_ hdb)⟩
  refine PySem.W.callWith_KW0 (h₀ := X.base) I.ok.mod.kin hkp hall ?_ hpl
  refine thn (hkw.run pos pins s σ H _ I (lsp_go h)) fun ws s2 ⟨zs, H2, I2, rz, q2⟩ => ⟨I2.kIn, ?_⟩
  rw [hks]
  obtain ⟨U, _, n, q2⟩ := q2
  have hl : zs.length = ps.length := F.len _ _ _ _ q2
  refine wpAny_call (codeAny_mono (F.run (s := s2) (args := ⟨[], ks.zip ws⟩) (hr.mono hk) hg (env0_cutO I2.env0) (hb s2 ws (by rw [← rz.length]; exact hl)) rz q2) fun y s' hq => ?_)
  match y, hq with
  | .error e, hq => exact hx pins σ H2 s2 e s' I2 (cx_glueO I2.hok I2.env0.frf hq)
  | .ok (.ret u), hq => exact I2.after (ce_glueO I2.hok I2.env0.frf hq)
end
end Aim

namespace Aim
open PySem PySem.Spec PyProof.Rows L2
open LamX (TabB Tabs CodeO)
open Stt (cnt sto)
variable {S : Type} [Stt S]
/-! ### the ending: the law's def at the head's heap -/
/-- a law's promise -/
def spLaw : DSp := fun ds n Q _ => ∃ ns : List Int, ds = [.scr ns] ∧ ns.length ≤ 63 ∧ (∀ z ∈ ns, Builtin.Int.intBits z ≤ 1048576) ∧ n = 0 ∧ ∀ m, Q (.bl true) m
theorem fun_uniq {K : PySem.W.Frag} {x q : Str} {st : Stmt} {f : Addr} {fd fd' : FuncData} (F : L2.Fun K x q st f fd) (F' : L2.Fun K x q st f fd') : fd = fd' := by
  obtain ⟨oc, od, kV, doc, pm, an, cdv, ct, osl, e, lk, hcd⟩ := F.ex
  obtain ⟨oc', od', kV', doc', pm', an', cdv', ct', osl', e', lk', hcd'⟩ := F'.ex
  rw [lk] at lk'
  subst e
  subst e'
  have z := Option.some.inj lk'
  have z := congrArg Obj.data z
  injection z
section
variable {P : Program} {w : World} {K : PySem.W.Frag} {mg : Str → Option Value} {h : Heap} {TT : List (Addr × Str)}
theorem at_law {l : PySem.W.OpenLaw} {k : Nat} {x : Str} {st : Stmt} {fa : Addr} {cs : List (Addr × Addr)} (F : Has K mg "law" st) (hfa : mg "law" = some (.ref fa)) (hTT : ∀ p ∈ TT, ∃ c, (c, p.1) ∈ cs)
    (hT : ∀ p ∈ cs, h.get? p.2 = some tab0 ∧ K.lookup p.2 = none ∧ PySem.W.CodeHd h p.1 p.2)
    (hb : ∀ (kV doc pm : Value) (an : Option Addr) (cdv ct : Value) (u : Value), bindArgs (PySem.W.fnOf "law" "law" (defArgs st) (defBody st) (defScope st) .none kV doc pm an cdv ct) ⟨[u], []⟩ = pure [(x, u)])
    (D : ∀ base : Heap, (∀ p ∈ cs, TabB base mg p.1 p.2) → DfW l.prog w K mg base true k "law" st [x] (LSp K TT spLaw)) : AtLaw l w K k 63 x mg fa h := by
  obtain ⟨f, fd, F, hm⟩ := F.ex
  have e : f = fa := by
    have := hm.symm.trans hfa
    cases this
    rfl
  subst e
  refine ⟨fd, cs, LSp K TT spLaw, hT, ?_, ?_, ?_⟩
  · obtain ⟨oc, od, kV, doc, pm, an, cdv, ct, osl, rfl, lk, hcd⟩ := F.ex
    exact fun s u => .of_eq (hb kV doc pm an cdv ct u)
  · intro H a ns hl hbits ht hs
    refine ⟨[.scr ns], 0, fun d _ => d = .bl true, R0, .cons (.scr hs) .nil, ⟨ns, rfl, hl, hbits, rfl, fun _ => rfl⟩, fun d m v H' e _ s => ?_, .zero fun p hp => ?_, .nat⟩
    · subst e
      cases s
      rfl
    · obtain ⟨c, hc⟩ := hTT p hp
      exact LamX.TabS.nil (ht _ hc)
  · intro base _ _ _ TB
    obtain ⟨f', fd', F', R, hm', _⟩ := (D base TB).ex
    have e : f' = f := by
      have := hm'.symm.trans hm
      cases this
      rfl
    subst e
    rw [fun_uniq F F']
    exact R
/-- a def with a lambda: its table -/
theorem lam_tab {q : Program} {x : Str} {d : DefRec} {f c Pt : Addr} {st : Stmt} {oc kV doc pm ct cc : Value} {od an cdd : Option Addr} {osl cs : Array (Option Value)} {vs : Array Value}
    (tabs : ∀ (x : Str) (d : DefRec) (c P : Addr), (recsOf q).find? (fun e => e.name == x) = some d → PySem.W.tabIn K x = some (c, P) → PySem.W.CodeHd h c P ∧ h.get? P = some tab0)
    (r : (recsOf q).find? (fun e => e.name == x) = some d) (a : PySem.W.nsIn K mainGlobals x = some (some (.ref f))) (lR : K.lookup f = some ⟨oc, od, .func (PySem.W.fnOf x x (defArgs st) (defBody st) (defScope st) .none kV doc pm an (.ref c) ct), osl⟩)
    (lc : K.lookup c = some ⟨cc, cdd, .fields vs, cs⟩) (e11 : (vs[11]? : Option Value) = some (.ref Pt)) (nP : K.lookup Pt = none) : h.get? Pt = some tab0 ∧ K.lookup Pt = none ∧ PySem.W.CodeHd h c Pt := by
  have tb : PySem.W.tabIn K x = some (c, Pt) := by
    unfold PySem.W.tabIn
    rw [a]
    dsimp only
    rw [lR]
    dsimp only [PySem.W.fnOf]
    rw [lc]
    dsimp only
    rw [e11]
  obtain ⟨h1, h2⟩ := tabs _ _ _ _ r tb
  exact ⟨h2, nP, h1⟩
theorem hu_at {P : Addr} {q : Str} (nd : (TT.map Prod.fst).Nodup) (h : (P, q) ∈ TT) : ∀ p ∈ TT, p.1 = P → p.2 = q := by
  induction TT with
  | nil => cases h
  | cons t r ih =>
    rw [List.map_cons, List.nodup_cons] at nd
    intro p hp e
    rcases List.mem_cons.mp h with z | z
    · subst z
      rcases List.mem_cons.mp hp with y | y
      · rw [y]
      · exact absurd (by have := List.mem_map_of_mem (f := Prod.fst) y; rw [e] at this; exact this) nd.1
    · rcases List.mem_cons.mp hp with y | y
      · subst y
        exact absurd (by have := List.mem_map_of_mem (f := Prod.fst) z; rw [e]; exact this) nd.1
      · exact ih nd.2 z p y e
/-! ### a module's constants -/
theorem gc_int (X : K.In h) (G : h.Ns mainGlobals mg) {x : Str} {i : Int} {t : Tok} (a : PySem.W.nsIn K mainGlobals x = some (some (.int i t))) : GC K mg x (.int i) := ⟨.int i, _, PySem.W.mg_of X G a, ⟨_, rfl⟩, fun _ _ => .int i⟩
theorem gc_str (X : K.In h) (G : h.Ns mainGlobals mg) {x y : Str} {t : Tok} (a : PySem.W.nsIn K mainGlobals x = some (some (.str y t))) (b : StrB y) : GC K mg x (.str y) := ⟨.str y, _, PySem.W.mg_of X G a, ⟨_, rfl⟩, fun _ _ => .str y b⟩
/-- a tuple of texts -/
theorem gc_strs (X : K.In h) (G : h.Ns mainGlobals mg) {x : Str} {ad : Addr} {n : Nat} {sl : Array (Option Value)} {ys : List Str} {its : Array Value} (a : PySem.W.nsIn K mainGlobals x = some (some (.ref ad)))
    (l : K.lookup ad = some ⟨.type "tuple", none, .seq its n, sl⟩) (hv : Vals (ys.map V.str) its.toList) (hl : ys.length ≤ 1000) (b : ∀ y ∈ ys, StrB y) : GC K mg x (.tup (ys.map Dat.str)) := by
  refine ⟨.ref ad, _, PySem.W.mg_of X G a, rfl, fun m H => ?_⟩
  have e := hv.length
  simp only [List.length_map, Array.length_toList] at e
  have sz : sizeLine = 16777216 := by decide +kernel
  exact .tup (.inr ⟨_, its, n, l, rfl, rfl, rfl, by omega, hv⟩) (by rw [List.length_map]; omega) (.ofStrs b)
end
end Aim

namespace Aim
open PySem PySem.Spec PyProof.Rows L2
open LamX (TabB Tabs CodeO)
open Stt (cnt sto)
variable {S : Type} [Stt S]
/-! ### instances in the making -/
section
variable {X : Cx} {pins : List (Addr × Obj)} {σ : L2.St} {H : Hp} {s : Shared} {C dx x : Addr} {ks : List Str} {xs : List V}
/-- x, an instance, and its dict: told as things in the making -/
def toM (H : Hp) (C dx x : Addr) (ks : List Str) (xs : List V) : Hp := upd (upd H dx (OwnS (.ins ks) xs dx)) x (HidX C dx x)
/-- .. and back -/
def ofM (H : Hp) (C dx x : Addr) (ks : List Str) (xs : List V) : Hp := upd (upd H dx (.own x)) x (.ins C dx (ks.zip xs))
theorem toM_x : toM H C dx x ks xs x = some (HidX C dx x) := upd_same
theorem toM_d (n : dx ≠ x) : toM H C dx x ks xs dx = some (OwnS (.ins ks) xs dx) := by
  unfold toM
  rw [upd_ne n, upd_same]
theorem toM_ne {b : Addr} (h1 : b ≠ x) (h2 : b ≠ dx) : toM H C dx x ks xs b = H b := by
  unfold toM
  rw [upd_ne h1, upd_ne h2]
theorem ofM_ne {b : Addr} (h1 : b ≠ x) (h2 : b ≠ dx) : ofM H C dx x ks xs b = H b := by
  unfold ofM
  rw [upd_ne h1, upd_ne h2]
theorem to_making (I : Inv X pins σ H s) (hx : H x = some (.ins C dx (ks.zip xs))) (l : ks.length = xs.length) : Inv X pins σ (toM H C dx x ks xs) s ∧ dx ≠ x := by
  obtain ⟨ho, hl, ne, hg, mA, ns, r, wi⟩ := (show ObjOk X.prog X.w H s.heap x (.ins C dx (ks.zip xs)) from I.hok x _ hx)
  have l2 : xs.length ≤ 1000 := by
    rw [List.length_zip, l, Nat.min_self] at hl
    exact hl
  have y : shφ (.ins ks) xs dx s.heap := by
    obtain ⟨o, es, ep, e1, e2, _⟩ := ns.ns
    exact ⟨⟨l, l2⟩, ⟨o, es, _, e1, e2⟩, mA, ns, r, wi⟩
  refine ⟨I.un (h' := s.heap) (t' := s.toks) ⟨fun b o e _ _ _ => e, fun b o e _ _ _ => ⟨o.slots, e⟩, fun b o e n _ => ?_, fun b o e _ => ⟨o, e⟩, fun b ys e => ?_, fun b o u e => ?_, fun b ps e => ⟨#[], ?_⟩⟩ fun b o e => ?_, ne⟩
  · rw [toM_ne (fun z => by rw [z, hx] at n; cases n) fun z => by rw [z, ho] at n; cases n]
    exact n
  · rw [toM_ne (fun z => by rw [z, hx] at e; cases e) fun z => by rw [z, ho] at e; cases e]
    exact e
  · rw [toM_ne (fun z => by rw [z, hx] at e; cases e) fun z => by rw [z, ho] at e; cases e]
    exact e
  · rw [toM_ne (fun z => by rw [z, hx] at e; cases e) (fun z => by rw [z, ho] at e; cases e), Array.append_empty]
    exact e
  · by_cases b1 : b = x
    · subst b1
      rw [toM_x] at e
      cases e
      exact ⟨hg, ⟨_, hg⟩, fun h1 h2 q f => f _ q⟩
    by_cases b2 : b = dx
    · subst b2
      rw [toM_d ne] at e
      cases e
      exact OwnS.insOk y
    rw [toM_ne b1 b2] at e
    refine ok_beside (I.hok b o e) (fun c z => ?_) fun c ys z => ?_
    · rw [toM_ne (fun w => by rw [w, hx] at z; cases z) fun w => by rw [w, ho] at z; cases z; exact b1 rfl]
      exact z
    · rw [toM_ne (fun w => by rw [w, hx] at z; cases z) fun w => by rw [w, ho] at z; cases z]
      exact z
theorem of_making (I : Inv X pins σ H s) (hx : H x = some (HidX C dx x)) (hd : H dx = some (OwnS (.ins ks) xs dx)) : Inv X pins σ (ofM H C dx x ks xs) s ∧ dx ≠ x ∧ ks.length = xs.length := by
  obtain ⟨hg, _, _⟩ := (show ObjOk X.prog X.w H s.heap x (HidX C dx x) from I.hok x _ hx)
  obtain ⟨⟨l, l2⟩, ⟨o, es, ep, e1, e2⟩, mA, ns, r, wi⟩ := OwnS.at I.hok hd
  have hg : s.heap.get? x = some (PySem.W.instObj C dx) := hg
  have ne : dx ≠ x := fun z => by
    rw [z, hg] at e1
    cases e1
    cases e2
  have hne : ∀ {b : Addr} {u : HO}, H b = some u → (∀ φ, u ≠ .ext φ) → b ≠ x ∧ b ≠ dx := fun {b u} e q => ⟨fun z => by rw [z, hx] at e; exact q _ (Option.some.inj e).symm, fun z => by rw [z, hd] at e; exact q _ (Option.some.inj e).symm⟩
  refine ⟨I.un (h' := s.heap) (t' := s.toks) ⟨fun b o e _ _ _ => e, fun b o e _ _ _ => ⟨o.slots, e⟩, fun b o e n _ => ?_, fun b o e _ => ⟨o, e⟩, fun b ys e => ?_, fun b o u e => ?_, fun b ps e => ⟨#[], ?_⟩⟩ fun b o e => ?_, ne, l⟩
  · rw [ofM_ne (fun z => by rw [z, hx] at n; cases n) fun z => by rw [z, hd] at n; cases n]
    exact n
  · obtain ⟨h1, h2⟩ := hne e fun φ z => nomatch z
    rw [ofM_ne h1 h2]
    exact e
  · obtain ⟨h1, h2⟩ := hne e fun φ z => nomatch z
    rw [ofM_ne h1 h2]
    exact e
  · obtain ⟨h1, h2⟩ := hne e fun φ z => nomatch z
    rw [ofM_ne h1 h2, Array.append_empty]
    exact e
  · by_cases b1 : b = x
    · subst b1
      have e' : ofM H C dx b ks xs b = some (.ins C dx (ks.zip xs)) := upd_same
      rw [e'] at e
      cases e
      refine ⟨?_, by rw [List.length_zip, l, Nat.min_self]; exact l2, ne, hg, mA, ns, r, wi⟩
      unfold ofM
      rw [upd_ne ne, upd_same]
    by_cases b2 : b = dx
    · subst b2
      have e' : ofM H C b x ks xs b = some (.own x) := by
        unfold ofM
        rw [upd_ne ne, upd_same]
      rw [e'] at e
      cases e
      exact ⟨_, e1⟩
    rw [ofM_ne b1 b2] at e
    refine ok_beside (I.hok b o e) (fun c z => ?_) fun c ys z => ?_
    · obtain ⟨h1, h2⟩ := hne z fun φ w => nomatch w
      rw [ofM_ne h1 h2]
      exact z
    · obtain ⟨h1, h2⟩ := hne z fun φ w => nomatch w
      rw [ofM_ne h1 h2]
      exact z

theorem pe_ofM {e : Expr} {t : TE} (h : PE X e t) : PE X e (fun σ H Q => t σ H fun v H1 => ∃ C dx x ks xs, v = .ref x ∧ H1 x = some (HidX C dx x) ∧ H1 dx = some (OwnS (.ins ks) xs dx) ∧ Q v (ofM H1 C dx x ks xs)) :=
  ⟨fun pins s σ H Q I q => thn (h.run pins s σ H _ I q) fun u s1 ⟨v, H1, I1, r, C, dx, x, ks, xs, e, hx, hd, q1⟩ => ⟨v, _, (of_making I1 hx hd).1, r, q1⟩⟩
theorem ps_toM {st : Stmt} {t : TS} (h : PS X st t) : PS X st (fun D σ H => t { D with nx := fun σ' H' => ∃ C dx x ks xs, H' x = some (.ins C dx (ks.zip xs)) ∧ ks.length = xs.length ∧ D.nx σ' (toM H' C dx x ks xs) } σ H) :=
  ⟨fun pins s σ H D I q => thn (h.run pins s σ H _ I q) fun fl s1 z => by
    cases fl with
    | next =>
      obtain ⟨σ', H', I1, C, dx, x, ks, xs, hx, l, q1⟩ := z
      exact ⟨σ', _, (to_making I1 hx l).1, q1⟩
    | _ => exact z⟩
end
section
variable {K : PySem.W.Frag} {n m : S} {H H' : Hp} {ρ : List Sl} {σ : L2.St} {TT : List (Addr × Str)}
theorem Rel.putIns {i : Nat} {x C : Addr} {ks : List Str} {ds : List Dat} {o : Option V} (r : Rel K ρ n σ H) (h : SlR K n H (.ins x C ks ds) o) : Rel K (ρ.set i (.ins x C ks ds)) n (σ.set i o) H := by
  refine ⟨by simpa using r.len, fun j s e => ?_, fun j k a b ne h1 h2 => ?_, r.st⟩
  · rw [List.getElem?_set] at e
    split at e
    · rename_i hij
      subst hij
      split at e
      · rename_i hl
        cases e
        refine ⟨o, ?_, h⟩
        rw [List.getElem?_set_self (by rw [← r.len]; exact hl)]
      · cases e
    · rename_i hij
      obtain ⟨o, e1, q⟩ := r.sl j s e
      exact ⟨o, by rw [List.getElem?_set_ne hij]; exact e1, q⟩
  · have key : ∀ j a, Owns (ρ.set i (.ins x C ks ds)) (σ.set i o) j a → Owns ρ σ j a := fun j a ⟨⟨ds, e1⟩, e2⟩ => by
      rw [List.getElem?_set] at e1
      split at e1
      · split at e1 <;> cases e1
      · rename_i hij
        rw [List.getElem?_set_ne hij] at e2
        exact ⟨⟨ds, e1⟩, e2⟩
    exact r.ap j k a b ne (key _ _ h1) (key _ _ h2)
/-- no other slot holds an instance in the making -/
def oneIns (ρ : List Sl) (i : Nat) : Prop := ∀ (j : Nat) (a C : Addr) (ks : List Str) (ds : List Dat), j ≠ i → ρ[j]? ≠ some (.ins a C ks ds)
/-- the instance at slot i gets other fields -/
theorem Rel.remake {i : Nat} {C x dx : Addr} {ks ks' : List Str} {xs xs' : List V} {ds ds' : List Dat} (r : Rel K ρ n σ H) (h : ρ[i]? = some (.ins x C ks ds)) (hσ : σ[i]? = some (some (.ref x))) (one : oneIns ρ i) (hx : H x = some (HidX C dx x)) (hd : H dx = some (OwnS (.ins ks) xs dx)) (hs : sto n x = none ∧ sto n dx = none)
    (l : ks'.length = xs'.length) (s : SeesL K n H xs' ds') : Rel K (ρ.set i (.ins x C ks' ds')) n σ (upd H dx (OwnS (.ins ks') xs' dx)) := by
  have fo : Fra K [] n H n (upd H dx (OwnS (.ins ks') xs' dx)) := .own hd hs.2
  have ne : dx ≠ x := fun z => by
    rw [z, hx] at hd
    exact kind_ins (z ▸ (Option.some.inj hd).symm)
  have z := (Rel.drop (i := i) (o := none) r).mono fo (k2 := fun j C' x' dy js es ys e1 hx' hd' _ _ => ?_) fun j b zs ow lz eb sb => ⟨?_, sb⟩
  · have w := z.putIns (i := i) (x := x) (C := C) (ks := ks') (ds := ds') (o := some (.ref x)) (.ins l (by rw [upd_ne (Ne.symm ne)]; exact hx) upd_same hs (s.mono fo))
    simp only [List.set_set] at w
    rw [(r.here h hσ).2] at w
    exact w
  · exact upd_ne fun w => by
      rw [w, hd] at eb
      exact own_kind lz (w ▸ Option.some.inj eb)
  · exfalso
    rw [List.getElem?_set] at e1
    split at e1
    · split at e1 <;> cases e1
    · rename_i hij
      exact one j x' C' js es (Ne.symm hij) e1
end
def insOf : Sl → (Addr → Addr → List Str → List Dat → Prop) → Prop
  | .ins a C ks ds, P => P a C ks ds
  | _, _ => False
theorem insOf_of {ρ : List Sl} {i : Nat} {P : Addr → Addr → List Str → List Dat → Prop} (h : insOf (slAt ρ i) P) : ∃ a C ks ds, ρ[i]? = some (.ins a C ks ds) ∧ P a C ks ds := by
  cases e : slAt ρ i with
  | ins a C ks ds => rw [e] at h; exact ⟨a, C, ks, ds, slAt_of e (by simp), h⟩
  | _ => rw [e] at h; exact h.elim
theorem putF_new {f : Str} {y : V} : ∀ {ks : List Str} {xs : List V}, ks.length = xs.length → f ∉ ks → putF f y (ks.zip xs) = (ks ++ [f]).zip (xs ++ [y])
  | [], [], _, _ => rfl
  | k :: ks, x :: xs, l, n => by
    show (if k = f then _ else (k, x) :: putF f y (ks.zip xs)) = (k, x) :: (ks ++ [f]).zip (xs ++ [y])
    rw [if_neg fun z => n (by simp [z]), putF_new (Nat.succ.inj l) fun z => n (by simp [z])]
section
variable {X : Cx} {TT : List (Addr × Str)} {E : XK} {i : Nat} {C : Addr} {f : Str} {o value : Expr} {fe : GDE S} {pos pos' : Pos}
/-- self.f = e, in __init__ -/
def dSelf (i : Nat) (C : Addr) (f : Str) (fe : GDE S) : GDS S := fun P ρ n => fe ρ n (fun d m => insOf (slAt ρ i) fun a C' ks ds => C' = C ∧ f ∉ ks ∧ ks.length < 900 ∧ oneIns ρ i ∧ P.nx (ρ.set i (.ins a C (ks ++ [f]) (ds ++ [d]))) m) P.ex
theorem ds_self (c : Cls X.K C) (na : NoAttr X.K C f) (ho : PE X o (tVar i)) (hv : PE X value (LE X.K TT E fe)) (hs : swapsWith value (some (.Attribute o f pos')) pos.line X.env = pure false) : PS X (.Assign [.Attribute o f pos'] value pos) (LS X.K TT E (dSelf i C f fe)) :=
  (ps_toM (ps_fld (pe_ofM ho) hv hs)).imp fun D σ H ⟨ρ, n, P, rl, q, k⟩ => ⟨ρ, n, _, P.ex, rl, q, fun d m y H1 z e sy => by
    obtain ⟨x, C', ks, ds, hρ, rfl, nf, hl, one, z⟩ := insOf_of z
    have r1 := rl.fre e
    obtain ⟨dx, xs, hσ, l, hx, hd, hs, sx⟩ := r1.making hρ
    have ne : dx ≠ x := fun w => by
      rw [w, hx] at hd
      exact kind_ins (w ▸ (Option.some.inj hd).symm)
    have l' : (ks ++ [f]).length = (xs ++ [y]).length := by simp [l]
    refine ⟨.ref x, hσ, C', dx, x, ks, xs, rfl, hx, hd, x, C', dx, ks.zip xs, rfl, upd_same, c, na, by rw [List.length_zip, l, Nat.min_self]; omega, C', dx, x, ks ++ [f], xs ++ [y], by rw [upd_same, putF_new l nf], l', ?_⟩
    have eH : toM (upd (ofM H1 C' dx x ks xs) x (.ins C' dx (putF f y (ks.zip xs)))) C' dx x (ks ++ [f]) (xs ++ [y]) = upd H1 dx (OwnS (.ins (ks ++ [f])) (xs ++ [y]) dx) := by
      funext b
      by_cases b1 : b = x
      · rw [b1, toM_x, upd_ne (Ne.symm ne), hx]
      · by_cases b2 : b = dx
        · rw [b2, toM_d ne, upd_same]
        · rw [toM_ne b1 b2, upd_ne b1, ofM_ne b1 b2, upd_ne b2]
    rw [eH]
    exact k.nx _ m σ _ z (e.toFra.trans (.own hd hs.2)) (r1.remake hρ hσ one hx hd hs l' (sx.append (.cons sy .nil))), k.ex.toE⟩
end
/-! ### made: data -/
section
variable {K : PySem.W.Frag} {n m : S} {H H' : Hp} {TT : List (Addr × Str)}
/-- an own thing is told otherwise -/
theorem Fra.swap {p : Addr} {sh : Shp} {xs : List V} {o : HO} (h : H p = some (OwnS sh xs p)) (hs : sto n p = none) : Fra K TT n H n (upd H p o) := .wr h hs
/-- the instance in the making is done -/
theorem sees_made {C dx x : Addr} {ks : List Str} {xs : List V} {ds : List Dat} (hx : H x = some (HidX C dx x)) (hd : H dx = some (OwnS (.ins ks) xs dx)) (l : ks.length = xs.length) (hs : sto m x = none ∧ sto m dx = none) (s : SeesL K m H xs ds) : Fra K TT m H m (ofM H C dx x ks xs) ∧ Sees K m (ofM H C dx x ks xs) (.ref x) (.obj C ks ds) := by
  have ne : dx ≠ x := fun w => by
    rw [w, hx] at hd
    exact kind_ins (w ▸ (Option.some.inj hd).symm)
  have f : ∀ T : List (Addr × Str), Fra K T m H m (ofM H C dx x ks xs) := fun T => (Fra.swap hd hs.2).trans (.swap (sh := .inst C dx) (xs := []) (by rw [upd_ne (Ne.symm ne)]; exact hx) hs.1)
  exact ⟨f TT, .obj upd_same l (s.mono (f []))⟩
theorem lookup_sees {f : Str} {d : Dat} : ∀ {ks : List Str} {xs : List V} {ds : List Dat}, SeesL K n H xs ds → (ks.zip ds).lookup f = some d → ∃ v, (ks.zip xs).lookup f = some v ∧ Sees K n H v d
  | [], _, _, _, h => by cases h
  | _ :: _, _, _, .nil, h => by cases h
  | k :: ks, _, _, .cons (v := v) s1 s2, h => by
    rw [List.zip_cons_cons, List.lookup_cons] at h ⊢
    cases e : f == k with
    | true =>
      rw [e] at h
      cases h
      exact ⟨v, rfl, s1⟩
    | false =>
      rw [e] at h
      exact lookup_sees s2 h
end
/-- e.f, a field of a made instance -/
def gFld (C : Addr) (f : Str) : Dat → (Dat → Prop) → Prop
  | .obj C' ks ds, P => C' = C ∧ optD ((ks.zip ds).lookup f) P
  | _, _ => False
theorem de_fld {X : Cx} {TT : List (Addr × Str)} {E : XK} {C : Addr} {f : Str} {e : Expr} {fe : GDE S} {pos : Pos} (c : Cls X.K C) (na : NoAttr X.K C f) (h : PE X e (LE X.K TT E fe)) (hb : attributeBase e f X.env (eval e X.env) = eval e X.env) :
    PE X (.Attribute e f pos) (LE X.K TT E (dUn (gFld C f) fe)) := (pe_fld h hb).imp fun σ H Q ⟨ρ, n, P, R, r, q, k, x⟩ => ⟨ρ, n, _, R, r, q, fun d m v H1 z e s => by
  unfold gFld at z
  split at z
  · obtain ⟨rfl, z⟩ := z
    obtain ⟨d', hd, z⟩ := optD_of z
    cases s with
    | obj h1 h2 h3 =>
      obtain ⟨v, hv, sv⟩ := lookup_sees h3 hd
      exact ⟨_, _, _, _, v, rfl, h1, c, na, hv, k _ m _ H1 z e sv⟩
  · exact z.elim, x⟩
end Aim

namespace Aim
open PySem PySem.Spec PyProof.Rows L2
open LamX (TabB Tabs CodeO)
open Stt (cnt sto)
variable {S : Type} [Stt S]
/-! ### __init__ by data -/
/-- what __init__ promises: of the arguments' data, the instance's -/
def LSpI (K : PySem.W.Frag) (TT : List (Addr × Str)) (C : Addr) (sp : GDSp S) : Sp := fun vs H Q E => ∃ x dx us H0 ds n P R, vs = .ref x :: us ∧ H0 x = none ∧ H0 dx = none ∧ dx ≠ x ∧ H = upd (upd H0 dx (.own x)) x (.ins C dx []) ∧ SeesL K n H0 us ds ∧ sp ds n P R ∧
  (∀ d m H', P d m → Fra K TT n H0 m H' → Sees K m H' (.ref x) d → Q .non H') ∧ ExOk K TT E n H0 R ∧ StoOk K n H0
theorem pss_init {X : Cx} {body : List Stmt} {t : TS} (h : PSs X body t) : PSs X body (fun D σ H => ∃ C dx x, H x = some (.ins C dx []) ∧ t { nx := fun σ' H' => ∃ dy ks xs, H' x = some (HidX C dy x) ∧ H' dy = some (OwnS (.ins ks) xs dy) ∧ D.nx σ' (ofM H' C dy x ks xs), rt := fun _ _ => False } σ (toM H C dx x [] [])) :=
  ⟨fun pins s σ H D I ⟨C, dx, x, hx, q⟩ => thn (h.run pins s σ _ _ (to_making (ks := []) (xs := []) I hx rfl).1 q) fun fl s1 z => by
    cases fl with
    | next =>
      obtain ⟨σ', H', I1, dy, ks, xs, h1, h2, q1⟩ := z
      exact ⟨σ', _, (of_making I1 h1 h2).1, q1⟩
    | ret v =>
      obtain ⟨_, _, _, _, z⟩ := z
      exact z.2.elim
    | _ =>
      obtain ⟨_, _, _, z⟩ := z
      exact z.elim⟩
theorem rel_init {K : PySem.W.Frag} {n : S} {H0 : Hp} {C dx x : Addr} {us : List V} {ds : List Dat} {N : List Str} (h0 : H0 x = none) (h1 : H0 dx = none) (ne : dx ≠ x) (hN : 0 < N.length) (s : SeesL K n H0 us ds) (t : StoOk K n H0) :
    Rel K ((dstart N (.non :: ds)).set 0 (.ins x C [] [])) n (start N (.ref x :: us)) (toM (upd (upd H0 dx (.own x)) x (.ins C dx [])) C dx x [] []) ∧ Grow H0 (toM (upd (upd H0 dx (.own x)) x (.ins C dx [])) C dx x [] []) := by
  have g : Grow H0 (toM (upd (upd H0 dx (.own x)) x (.ins C dx [])) C dx x [] []) := fun b o e => by
    have b1 : b ≠ x := fun z => by rw [z, h0] at e; cases e
    have b2 : b ≠ dx := fun z => by rw [z, h1] at e; cases e
    rw [toM_ne b1 b2, upd_ne b1, upd_ne b2]
    exact e
  refine ⟨?_, g⟩
  have r := rel_start (K := K) (n := n) (H := toM (upd (upd H0 dx (.own x)) x (.ins C dx [])) C dx x [] []) (vs := .ref x :: us) (ds := .ref x :: ds) (.cons (.ref x) (s.grow g)) N (t.mono (.growB g) rfl fun a xs sh _ e => g _ _ e)
  have w := r.putIns (i := 0) (x := x) (C := C) (ks := []) (ds := []) (o := some (.ref x)) (.ins (xs := []) rfl toM_x (toM_d ne) ⟨t.free h0, t.free h1⟩ .nil)
  have e : (start N (V.ref x :: us)).set 0 (some (.ref x)) = start N (V.ref x :: us) := rfl
  rw [e] at w
  exact w
section
variable {P : Program} {w : World} {K : PySem.W.Frag} {mg : Str → Option Value} {base : Heap} {TT : List (Addr × Str)} {k : Nat} {sp : GDSp S} {N ps : List Str}
theorem rn_init {qual : Str} {st : Stmt} {C f : Addr} {dV kV doc pm cdv ct oc : Value} {an od : Option Addr} {osl : Array (Option Value)} (lk : K.lookup f = some ⟨oc, od, .func (PySem.W.fnOf "__init__" qual (defArgs st) (defBody st) (defScope st) dV kV doc pm an cdv ct), osl⟩) (hcd : PySem.W.codeIn K cdv qual = true) (S : FnScope N ps (defScope st)) (hN : 0 < N.length)
    (body : ∀ (A : Around) (outer : List Env) (s : Shared) (H : Hp) (E : XK), Room k (A.deeper (envOfC qual (defScope st) s.heap.objs.size f cdv)) →
      ∃ g, PSs (cxOf (L2.CX P w) P w K mg base N qual (defScope st) f cdv A outer s H E) (defBody st) (LS K TT E g) ∧ ∀ x ds n PP R, sp ds n PP R → g { nx := fun ρ' m => insOf (slAt ρ' 0) fun a C' ks es => a = x ∧ C' = C ∧ PP (.obj C ks es) m, rt := fun _ _ => False, ex := R } ((dstart N (.non :: ds)).set 0 (.ins x C [] [])) n)
    (hl : ∀ ds n PP R, sp ds n PP R → ds.length + 1 = ps.length) : Rn P w K mg base false (k + 1) f (PySem.W.fnOf "__init__" qual (defArgs st) (defBody st) (defScope st) dV kV doc pm an cdv ct) ps (LSpI K TT C sp) := by
  have len : ∀ vs H Q E, LSpI K TT C sp vs H Q E → vs.length = ps.length := fun vs H Q E h => by
    obtain ⟨x, dx, us, H0, ds, n, PP, R, rfl, _, _, _, _, s, h, _⟩ := h
    rw [List.length_cons, s.length]
    exact hl _ _ _ _ h
  refine ⟨len, fun {A fr s H args us vs Q E} hr _ e0 b r q => LamX.run_ofS lk hcd S hr e0 b r (len _ _ _ _ q) fun hr' => ?_⟩
  obtain ⟨g, hp, z⟩ := body A fr s H E hr'
  obtain ⟨x, dx, us', H0, ds, n, PP, R, rfl, h0, h1, ne, rfl, se, h, kQ, kE, kS⟩ := q
  obtain ⟨r0, gr⟩ := rel_init (C := C) (N := N) h0 h1 ne hN se kS
  refine ⟨_, pss_init hp, C, dx, x, upd_same, _, n, _, r0, z x ds n PP R h, ⟨fun ρ m σ H' p fr' rl => ?_, fun _ _ _ _ z => z.elim, fun _ _ _ _ z => z.elim, fun _ _ _ _ z => z.elim, kE.mono (.grow gr)⟩⟩
  obtain ⟨_, _, ks, es, hρ, rfl, rfl, p⟩ := insOf_of p
  obtain ⟨dy, xs, hσ, l, hx, hd, hs, sx⟩ := rl.making hρ
  obtain ⟨f1, s1⟩ := sees_made (TT := TT) hx hd l hs sx
  exact ⟨dy, ks, xs, hx, hd, kQ _ m _ p (((Fra.grow gr).trans fr').trans f1) s1⟩
end
end Aim

namespace Aim
open PySem PySem.Spec PyProof.Rows L2
open LamX (TabB Tabs CodeO)
open Stt (cnt sto)
variable {S : Type} [Stt S]
/-! ### making an instance -/
/-- a class by its __init__'s promise, all parameters given -/
structure DfI (P : Program) (w : World) (K : PySem.W.Frag) (mg : Str → Option Value) (base : Heap) (TT : List (Addr × Str)) (k : Nat) (C : Addr) (sp : GDSp S) : Prop where
  ex : ∃ (f : Addr) (fd : FuncData) (ps : List Str), Rn P w K mg base false k f fd ps (LSpI K TT C sp) ∧ Mk K C f ∧ L2.Binds K fd ps []
theorem cutO_made {n : S} {H : Hp} {C dx x : Addr} (h0 : H x = none) (h1 : H dx = none) : cutO n (upd (upd H dx (.own x)) x (.ins C dx [])) = upd (upd (cutO n H) dx (.own x)) x (.ins C dx []) := by
  funext b
  by_cases b1 : b = x
  · subst b1
    rw [upd_same, cutO_out, upd_same]
    rintro ⟨⟨sh, xs, e⟩, _⟩
    rw [upd_same] at e
    cases e
  · rw [upd_ne b1]
    by_cases b2 : b = dx
    · subst b2
      rw [upd_same, cutO_out, upd_ne b1, upd_same]
      rintro ⟨⟨sh, xs, e⟩, _⟩
      rw [upd_ne b1, upd_same] at e
      cases e
    · rw [upd_ne b2]
      unfold cutO Prv
      rw [upd_ne b1, upd_ne b2]
section
variable {X : Cx} {TT : List (Addr × Str)} {E : XK} {k j : Nat} {C : Addr} {x : Str} {sp : GDSp S} {e : Expr} {es : List Expr} {fr : GDA S} {p pos : Pos}
theorem run_makeO {pins : List (Addr × Obj)} {σ : L2.St} {H : Hp} {s : Shared} {Q : VK} {us : List Value} {vs : List V} {f : Addr} {fd : FuncData} {ps : List Str} (M : Mk X.K C f) (F : Rn X.prog X.w X.K X.mg X.base false k f fd ps (LSpI X.K TT C sp)) (hr : Room (k + 1) X.A) (hb : L2.Binds X.K fd ps [])
    (hx : Passes (L2.CX X.prog X.w) X E) (I : Inv X pins σ H s) (r : Vals vs us) {ds : List Dat} {n : S} {PP : Dat → S → Prop} {R : GRX S} (se : SeesL X.K n H vs ds) (q : sp ds n PP R) (kQ : ∀ d m v H', PP d m → Fre X.K TT n H m H' → Sees X.K m H' v d → Q v H') (kE : ExE X.K TT E n H R) (kS : StoOk X.K n H) :
    wpAny (model X.prog X.w) X.A (call (.ref C) us) (EP X pins σ Q) X.xe s := by
  have h0 : H (s.heap.objs.size + 1) = none := I.hok.fresh (Nat.le_succ _)
  have h1 : H s.heap.objs.size = none := I.hok.fresh (Nat.le_refl _)
  have ne : s.heap.objs.size ≠ s.heap.objs.size + 1 := Nat.ne_of_lt (Nat.lt_succ_self _)
  have I2 := Inv.made (C := C) I
  have prv : ∀ b, Prv n H b → Prv n (upd (upd H s.heap.objs.size (.own (s.heap.objs.size + 1))) (s.heap.objs.size + 1) (.ins C s.heap.objs.size [])) b := fun b ⟨⟨sh, xs, e⟩, es⟩ => ⟨⟨sh, xs, by
    rw [upd_ne (fun z => by rw [z, h0] at e; cases e), upd_ne (fun z => by rw [z, h1] at e; cases e)]
    exact e⟩, es⟩
  have same : ∀ G : Hp, (∀ b, Prv n H b → G b = none) → glueO n (upd (upd H s.heap.objs.size (.own (s.heap.objs.size + 1))) (s.heap.objs.size + 1) (.ins C s.heap.objs.size [])) G = glueO n H G := fun G _ => by
    funext b
    by_cases pb : Prv n H b
    · rw [glueO_in pb, glueO_in (prv b pb)]
      obtain ⟨⟨sh, xs, e⟩, _⟩ := pb
      rw [upd_ne (fun z => by rw [z, h0] at e; cases e), upd_ne (fun z => by rw [z, h1] at e; cases e)]
    · rw [glueO_out pb, glueO_out]
      rintro ⟨⟨sh, xs, e⟩, es⟩
      by_cases b1 : b = s.heap.objs.size + 1
      · rw [b1, upd_same] at e
        cases e
      · rw [upd_ne b1] at e
        by_cases b2 : b = s.heap.objs.size
        · rw [b2, upd_same] at e
          cases e
        · rw [upd_ne b2] at e
          exact pb ⟨⟨sh, xs, e⟩, es⟩
  have hq : LSpI X.K TT C sp (.ref (s.heap.objs.size + 1) :: vs) (cutO n (upd (upd H s.heap.objs.size (.own (s.heap.objs.size + 1))) (s.heap.objs.size + 1) (.ins C s.heap.objs.size []))) (fun v G => (∀ b, Prv n (upd (upd H s.heap.objs.size (.own (s.heap.objs.size + 1))) (s.heap.objs.size + 1) (.ins C s.heap.objs.size [])) b → G b = none) → v = .non ∧ Q (.ref (s.heap.objs.size + 1)) (glueO n (upd (upd H s.heap.objs.size (.own (s.heap.objs.size + 1))) (s.heap.objs.size + 1) (.ins C s.heap.objs.size [])) G)) (fun c d G => (∀ b, Prv n (upd (upd H s.heap.objs.size (.own (s.heap.objs.size + 1))) (s.heap.objs.size + 1) (.ins C s.heap.objs.size [])) b → G b = none) → E c d (glueO n (upd (upd H s.heap.objs.size (.own (s.heap.objs.size + 1))) (s.heap.objs.size + 1) (.ins C s.heap.objs.size [])) G)) := by
    have ec := cutO_made (n := n) (C := C) h0 h1
    rw [ec]
    refine ⟨_, _, vs, cutO n H, ds, n, PP, R, rfl, cutO_none h0, cutO_none h1, ne, rfl, se.mono (TT := TT) Fra.cut, q, fun d m G p g t gone => ⟨rfl, by
      have gone' : ∀ b, Prv n H b → G b = none := fun b pb => gone b (prv b pb)
      rw [same G gone']
      exact kQ d m _ _ p (.glue g kS gone') (t.grow (grow_glue gone'))⟩, ⟨(Fra.cut (K := X.K) (n := n)).tab kE.tab, fun C d m dd v G p g hd t gone => ?_⟩, (Fra.cut (TT := TT)).st kS⟩
    have gone' : ∀ b, Prv n H b → G b = none := fun b pb => gone b (prv b pb)
    rw [same G gone']
    exact kE.ex C d m dd v _ p (Fre.glue g kS gone') (grow_glue gone' _ _ hd) (t.grow (grow_glue gone'))
  have r2 : Vals (V.ref (s.heap.objs.size + 1) :: vs) (Value.ref (s.heap.objs.size + 1) :: us) := .cons rfl r
  have hl : (Value.ref (s.heap.objs.size + 1) :: us).length = ps.length := by
    have e := r2.length
    rw [F.len _ _ _ _ hq] at e
    exact e.symm
  have hb2 := hb _ (Value.ref (s.heap.objs.size + 1) :: us) I2.kIn (by rw [List.append_nil]; exact hl)
  rw [List.append_nil] at hb2
  refine wpAny_call (make_map (f := f) I.kIn M.makes M.init (beq_iff_eq.mp M.fn) (codeAny_mono (F.run (args := ⟨Value.ref (s.heap.objs.size + 1) :: us, []⟩) (hr.make C us []) (fun z => nomatch z) ((env0_cutO I2.env0).make C us []) hb2 r2 hq) fun y s' hq' => ?_))
  match y, hq' with
  | .error e, hq' => exact hx pins σ _ _ e s' I2 (cx_glueO I2.hok I2.env0.frf hq')
  | .ok (.ret u), hq' =>
    obtain ⟨v, H', I3, rv, ev, q3⟩ := I2.after (ce_glueO (Q := fun v H' => v = .non ∧ Q (.ref (s.heap.objs.size + 1)) H') I2.hok I2.env0.frf hq')
    subst ev
    exact ⟨rv, ⟨V.ref (s.heap.objs.size + 1), H', I3, rfl, q3⟩⟩
/-- C(e, ..) -/
theorem de_make (d : DfI X.prog X.w X.K X.mg X.base TT k C sp) (hr : Room j X.A) (hk : k + 1 ≤ j) (gl : Gl X x) (hm : X.mg x = some (.ref C)) (hx : Passes (L2.CX X.prog X.w) X E) (ha : PA X (e :: es) (LA X.K TT E fr))
    (hdb : (x == ("__debug__" : Str)) = false := by decide) (he : starEach (e :: es) X.env = (false, eval e X.env) :: starEach es X.env := by rfl) (hpl : (backTo pos (starEach es X.env)).any (·.1) = false := by rfl) :
    PE X (.Call (.Name x p) (e :: es) [] pos) (LE (S := S) X.K TT E (dCall sp fr)) := by
  obtain ⟨f, fd, ps, F, M, hb⟩ := d.ex
  refine ⟨fun pins s σ H Q I h => wpAny_Call_Name_kw (ld_glob I gl hm ?_ hdb)⟩
  obtain ⟨ρ, n, P, R, rl, q, kQ, kE⟩ := h
  refine PySem.W.callWith_K (h₀ := X.base) I.ok.mod.kin M.kp (thn (ha.run pos pins s σ H (fun vs H1 => ∃ ds m, SeesL X.K m H1 vs ds ∧ sp ds m P R ∧ Fre X.K TT n H m H1) I ⟨ρ, n, _, R, rl, q, fun ds m vs H1 z e s => ⟨ds, m, s, z, e⟩, kE⟩) fun us s1 ⟨vs, H1, I1, r, ds, m, se, z, e⟩ => ⟨I1.kIn, ?_⟩) he hpl
  exact run_makeO M F (hr.mono hk) hb hx I1 r se z (fun d i v H' y g t => kQ d i v H' y (e.trans g) t) (kE.mono e) (e.st rl.st)
end
end Aim

namespace Aim
open PySem PySem.Spec PyProof.Rows L2
open LamX (TabB Tabs CodeO)
open Stt (cnt sto)
variable {T0 : Type} [Stt T0]
/-! ### by data -/
section
variable {K : PySem.W.Frag} {TT : List (Addr × Str)} {E : XK} {X : Cx} {e : Expr} {w : World}
/-- the texts of a list or a tuple -/
def seqTx : Dat → (List Str → Prop) → Prop
  | .lst ds, P => txts ds P
  | .tup ds, P => txts ds P
  | _, _ => False
theorem seqTx_of {n : T0} {H : Hp} {v : V} {d : Dat} {P : List Str → Prop} (s : Sees K n H v d) (h : seqTx d P) : ∃ l xs, v = .ref l ∧ (SqL K H l (xs.map V.str) ∨ SqT K H l (xs.map V.str)) ∧ (∀ b ∈ xs, StrB b) ∧ P xs := by
  unfold seqTx at h
  split at h
  · obtain ⟨bs, rfl, p⟩ := txts_of h
    obtain ⟨l, xs, rfl, h1, h2, h3⟩ := s.lst_iff
    obtain ⟨rfl, hb⟩ := h3.txts
    exact ⟨l, bs, rfl, .inl h1, hb, p⟩
  · obtain ⟨bs, rfl, p⟩ := txts_of h
    obtain ⟨l, xs, rfl, h1, h2, h3⟩ := s.tup_iff
    obtain ⟨rfl, hb⟩ := h3.txts
    exact ⟨l, bs, rfl, .inr h1, hb, p⟩
  · exact h.elim
def gLenSet : Dat → (Dat → Prop) → Prop := fun d P => seqTx d fun xs => xs.length ≤ 2000 ∧ P (.int (uniq xs).length)
theorem de_lenSet {f : GDE T0} (h : PE X e (tCB (rLenSS w) (tCons (tCB (rSetOfS X.K w) (tCons (LE X.K TT E f) tNil)) tNil))) : PE X e (LE X.K TT E (dUn gLenSet f)) := h.imp fun σ H Q ⟨ρ, n, P, R, r, q, k, x⟩ => by
  refine ⟨ρ, n, _, R, r, q, fun d m v H1 z e s => ?_, x⟩
  obtain ⟨l, xs, rfl, hs, _, hl, p⟩ := seqTx_of s z
  refine ⟨l, xs, rfl, hs, hl, fun a ha => ⟨a, _, _, rfl, upd_same, ?_⟩⟩
  exact k _ m _ _ p (e.trans (.grow (.new ha))) (.int _)
/-- sorted(set(..)): a new list -/
def gSortSet (f : GDE T0) : GDA T0 := fun ρ n P R => f ρ n (fun d m => seqTx d fun xs => xs.length < 64 ∧ ∀ ys : List Str, ys.Nodup → (∀ k, k ∈ ys ↔ k ∈ xs) → sortedS ys = true → P (ys.map .str) m) R
theorem lf_sortSet {f : GDE T0} (h : PE X e (tCB (rSortSS w) (tCons (tCB (rSetOfS X.K w) (tCons (LE X.K TT E f) tNil)) tNil))) : PE X e (LF X.K TT E (gSortSet f)) := h.imp fun σ H Q ⟨ρ, n, P, R, r, q, k, x⟩ => by
  refine ⟨ρ, n, _, R, r, q, fun d m v H1 z e s => ?_, x⟩
  obtain ⟨l, xs, rfl, hs, hb, hl, p⟩ := seqTx_of s z
  refine ⟨l, xs, rfl, hs, by omega, fun a ha => ⟨a, _, _, rfl, upd_same, by have := uniq_le xs; omega, fun ys p' nd hm st _ hp => ?_⟩⟩
  have hb' : ∀ b ∈ ys, StrB b := fun b hy => hb b (of_decide_eq_true ((hm b).mp hy))
  refine lf_grow k (p ys nd (fun k => (hm k).trans decide_eq_true_iff) st) (e.trans (.grow (.new ha))) r.st hp ?_ (SeesL.ofStrs hb')
  rw [List.length_map, nodup_len nd (uniq_nodup xs) fun x => by rw [uniq_mem, hm x, decide_eq_true_eq]]
  have := uniq_le xs
  rw [sizeLine_eq]
  omega
end
end Aim

namespace Aim
open PySem PySem.Spec PyProof.Rows L2
open LamX (TabB Tabs CodeO)
open Stt (cnt sto)
variable {S : Type} [Stt S]
/-! ### a def that gives a list of its own -/
abbrev GDSF (S : Type) := (List Dat → S → Prop) → GRX S → List Sl → S → Prop
abbrev DSF := GDSF Nat
abbrev GDSpF (S : Type) := List Dat → S → (List Dat → S → Prop) → GRX S → Prop
abbrev DSpF := GDSpF Nat
section
variable {K : PySem.W.Frag} {TT : List (Addr × Str)} {E : XK} {X : Cx}
/-- a list, new since n, H -/
def NewL (K : PySem.W.Frag) (TT : List (Addr × Str)) (n : S) (H : Hp) (es : List Dat) (m : S) (xs : List V) (a : Addr) (H' : Hp) : Prop := H' a = some (.lst xs) ∧ xs.length ≤ sizeLine ∧ sto m a = none ∧ Fra K TT n H m (upd H' a (OwnO xs a)) ∧ SeesL K m (upd H' a (OwnO xs a)) xs es
structure OkF (K : PySem.W.Frag) (TT : List (Addr × Str)) (E : XK) (n : S) (H : Hp) (P : List Dat → S → Prop) (R : GRX S) (D : Ends) : Prop where
  rt : ∀ es m xs a H', P es m → NewL K TT n H es m xs a H' → D.rt (.ref a) H'
  ex : ExOk K TT E n H R
theorem OkF.mono {n m : S} {H H1 : Hp} {P : List Dat → S → Prop} {R : GRX S} {D : Ends} (k : OkF K TT E n H P R D) (f : Fra K TT n H m H1) : OkF K TT E m H1 P R D := ⟨fun es j xs a H' p ⟨h1, l, hs, g, s⟩ => k.rt es j xs a H' p ⟨h1, l, hs, f.trans g, s⟩, k.ex.mono f⟩
def LSF (K : PySem.W.Frag) (TT : List (Addr × Str)) (E : XK) (g : GDSF S) : TS := fun D σ H => ∃ ρ n P R, Rel K ρ n σ H ∧ g P R ρ n ∧ OkF K TT E n H P R D
def dSeqF (g1 : GDS S) (g2 : GDSF S) : GDSF S := fun P R ρ n => g1 { nx := g2 P R, rt := fun _ _ => False, ex := R } ρ n
def dCutF (g1 : GDS S) (g2 : GDSF S) : GDSF S := fun P R ρ n => ∃ M : List Sl → S → Prop, g1 { nx := M, rt := fun _ _ => False, ex := R } ρ n ∧ ∀ ρ' m, M ρ' m → g2 P R ρ' m
theorem dsf_cons {st : Stmt} {sts : List Stmt} {g1 : GDS S} {g2 : GDSF S} (h1 : PS X st (LS K TT E g1)) (h2 : PSs X sts (LSF K TT E g2)) : PSs X (st :: sts) (LSF K TT E (dSeqF g1 g2)) := (pss_cons h1 h2).imp fun D σ H ⟨ρ, n, P, R, r, f, k⟩ =>
  ⟨ρ, n, _, r, f, ⟨fun ρ' m σ' H' q e r' => ⟨ρ', m, P, R, r', q, k.mono e⟩, fun _ _ _ _ z => z.elim, fun _ _ _ _ z => z.elim, fun _ _ _ _ z => z.elim, k.ex⟩⟩
theorem dsf_cut {st : Stmt} {sts : List Stmt} {g1 : GDS S} {g2 : GDSF S} (h1 : PS X st (LS K TT E g1)) (h2 : PSs X sts (LSF K TT E g2)) : PSs X (st :: sts) (LSF K TT E (dCutF g1 g2)) := (pss_cons h1 h2).imp fun D σ H ⟨ρ, n, P, R, r, ⟨M, f, q⟩, k⟩ =>
  ⟨ρ, n, _, r, f, ⟨fun ρ' m σ' H' z e r' => ⟨ρ', m, P, R, r', q ρ' m z, k.mono e⟩, fun _ _ _ _ z => z.elim, fun _ _ _ _ z => z.elim, fun _ _ _ _ z => z.elim, k.ex⟩⟩
def dRetF (i : Nat) : GDSF S := fun P _ ρ n => ownOf (slAt ρ i) fun ds => P ds n
theorem dsf_ret {i : Nat} {e : Expr} {pos : Pos} (h : PE X e (tVar i)) : PSs X [.Return (some e) pos] (LSF (S := S) K TT E (dRetF i)) := ⟨fun pins s σ H D I ⟨ρ, n, P, R, rl, q, k⟩ => by
  obtain ⟨ds, hρ, q⟩ := ownOf_of q
  obtain ⟨a, xs, hσ, l, hH, hs, sx⟩ := rl.owned hρ
  have b : upd (upd H a (.lst xs)) a (OwnO xs a) = H := upd_back hH
  refine (pss_one (ps_ret h)).run pins s σ _ D (of_own I hH) ⟨.ref a, hσ, k.rt ds n xs a _ q ⟨upd_same, l, hs, ?_, ?_⟩⟩
  · rw [b]
    exact .refl
  · rw [b]
    exact sx⟩
def LSpF (K : PySem.W.Frag) (TT : List (Addr × Str)) (sp : GDSpF S) : Sp := fun vs H Q E => ∃ ds n P R, SeesL K n H vs ds ∧ sp ds n P R ∧ (∀ es m xs a H', P es m → NewL K TT n H es m xs a H' → Q (.ref a) H') ∧ ExOk K TT E n H R ∧ StoOk K n H
/-- .. told as any list -/
def plainF (sp : GDSpF S) : GDSp S := fun ds n Q R => sp ds n (fun es m => Q (.lst es) m) R
theorem NewL.sees {n m : S} {H H' : Hp} {es : List Dat} {xs : List V} {a : Addr} (h : NewL K TT n H es m xs a H') : Fra K TT n H m H' ∧ Sees K m H' (.ref a) (.lst es) := by
  obtain ⟨h1, l, hs, f, s⟩ := h
  have b : upd (upd H' a (OwnO xs a)) a (.lst xs) = H' := upd_back h1
  have z := f.trans (Fra.melt (ys := xs) l (show upd H' a (OwnO xs a) a = some (OwnO xs a) from upd_same) hs)
  rw [b] at z
  exact ⟨z, sees_new h1 l hs s⟩
theorem dfF_plain {P : Program} {w : World} {mg : Str → Option Value} {base : Heap} {G : Bool} {k : Nat} {x : Str} {sp : GDSpF S} (d : Df P w K mg base G k x (LSpF K TT sp)) : Df P w K mg base G k x (LSp K TT (plainF sp)) := d.imp fun _ _ _ _ ⟨ds, n, PP, R, s, q, kQ, kE⟩ => ⟨ds, n, _, R, s, q, fun es m xs a H' p h => kQ _ m _ H' p h.sees.1 h.sees.2, kE⟩
end
section
variable {P : Program} {w : World} {K : PySem.W.Frag} {mg : Str → Option Value} {base : Heap} {TT : List (Addr × Str)} {G : Bool} {x : Str} {st : Stmt} {N ps : List Str} {k : Nat} {sp : GDSpF S}
theorem dat_okF (F : Has K mg x st) (hb : ∀ f fd, L2.Fun K x x st f fd → L2.Binds K fd ps []) (S : FnScope N ps (defScope st))
    (body : ∀ (f : Addr) (cdv : Value) (A : Around) (outer : List Env) (s : Shared) (H : Hp) (E : XK), Room k (A.deeper (envOfC x (defScope st) s.heap.objs.size f cdv)) → (G = true → A.guards = some []) →
      ∃ g, PSs (cxOf (L2.CX P w) P w K mg base N x (defScope st) f cdv A outer s H E).nox (defBody st) (LSF K TT E0 g) ∧ ∀ ds n PP R, sp ds n PP R → ds.length = ps.length ∧ g PP R0 (dstart N ds) n)
    (hl : ∀ ds n PP R, sp ds n PP R → ds.length = ps.length) : Df P w K mg base G (k + 1) x (LSpF K TT sp) := by
  obtain ⟨f, fd, F, hm⟩ := F.ex
  refine df_ok F hm (hb f fd F) S (fun vs H Q E h => ?_) (fun cdv A outer s H vs Q E hr hG h => ?_)
  · obtain ⟨ds, n, PP, R, s, h, _⟩ := h
    rw [s.length]
    exact hl _ _ _ _ h
  · obtain ⟨g, hp, q⟩ := body f cdv A outer s H E hr hG
    obtain ⟨ds, n, PP, R, se, h, kQ, kE, kS⟩ := h
    exact ⟨_, hp, _, n, PP, R0, rel_start se N kS, (q ds n PP R h).2, ⟨kQ, .zero kE.tab⟩⟩
end
section
variable {X : Cx} {TT : List (Addr × Str)} {E : XK} {k j : Nat} {G : Bool} {x : Str} {e : Expr} {es : List Expr} {fr : GDA S} {p pos : Pos}
def dCallF (sp : GDSpF S) (fr : GDA S) : GDA S := fun ρ n P R => fr ρ n (fun ds m => sp ds m P R) R
theorem lsp_goF {sp : GDSpF S} {σ : L2.St} {H : Hp} {Q : VK} (h : LF X.K TT E (dCallF sp fr) σ H Q) : LA X.K TT E fr σ H fun vs H1 => spO (LSpF X.K TT sp) vs H1 Q E := by
  obtain ⟨ρ, n, P, R, r, f, k, x⟩ := h
  refine ⟨ρ, n, _, R, r, f, fun ds m vs H1 q e s => ⟨S, _, m, ds, m, P, R, s.mono (TT := TT) Fra.cut, q, fun es j xs a G p ⟨ga, l, hs, g, t⟩ gone => ?_, ⟨(Fra.cut (K := X.K) (n := m)).tab (e.tab x.tab), fun C d j dd v G p g hd t gone => ?_⟩, (Fra.cut (TT := TT)).st (e.st r.st)⟩, x⟩
  · have apa : ¬ Prv m H1 a := fun z => by rw [gone a z] at ga; cases ga
    have eq : upd (glueO m H1 G) a (OwnO xs a) = glueO m H1 (upd G a (OwnO xs a)) := by
      funext b
      by_cases hb : b = a
      · rw [hb, upd_same, glueO_out apa, upd_same]
      · rw [upd_ne hb]
        by_cases pb : Prv m H1 b
        · rw [glueO_in pb, glueO_in pb]
        · rw [glueO_out pb, glueO_out pb, upd_ne hb]
    have gone2 : ∀ b, Prv m H1 b → upd G a (OwnO xs a) b = none := fun b pb => by
      rw [upd_ne fun z : b = a => apa (z ▸ pb)]
      exact gone b pb
    refine k es j xs a (glueO m H1 G) p (fun ys z zs => apa ⟨⟨_, ys, (e.own a ys z zs).1⟩, (e.own a ys z zs).2⟩) (grow_glue gone a _ ga) l hs ?_ ?_
    · rw [eq]
      exact e.trans (Fre.glue g (e.st r.st) gone2)
    · rw [eq]
      exact t.grow (grow_glue gone2)
  · exact x.ex C d j dd v _ p (e.trans (Fre.glue g (e.st r.st) gone)) (grow_glue gone _ _ hd) (t.grow (grow_glue gone))
theorem lf_call {sp : GDSpF S} (d : Df X.prog X.w X.K X.mg X.base G k x (LSpF X.K TT sp)) (hr : Room j X.A) (hk : k ≤ j) (hg : G = true → X.A.guards = some []) (gl : Gl X x) (hx : Passes (L2.CX X.prog X.w) X E) (ha : PA X (e :: es) (LA X.K TT E fr))
    (hdb : (x == ("__debug__" : Str)) = false := by decide) (he : starEach (e :: es) X.env = (false, eval e X.env) :: starEach es X.env := by rfl) (hpl : (backTo pos (starEach es X.env)).any (·.1) = false := by rfl) :
    PE X (.Call (.Name x p) (e :: es) [] pos) (LF X.K TT E (dCallF sp fr)) := by
  obtain ⟨f, fd, ps, F, hm, hkp, hb⟩ := d.ex
  refine ⟨fun pins s σ H Q I h => wpAny_Call_Name_kw (ld_glob I gl hm ?_ hdb)⟩
  exact PySem.W.callWith_K (h₀ := X.base) I.ok.mod.kin hkp (thn (ha.run pos pins s σ H _ I (lsp_goF h)) fun us s1 ⟨vs, H1, I1, r, q⟩ => ⟨I1.kIn, run_dfO F (hr.mono hk) hg hb hx I1 r q⟩) he hpl
end
/-! ### expressions that write own lists -/
abbrev GDEw (S : Type) := List Sl → S → (Dat → List Sl → S → Prop) → GRX S → Prop
abbrev DEw := GDEw Nat
abbrev GDAw (S : Type) := List Sl → S → (List Dat → List Sl → S → Prop) → GRX S → Prop
abbrev DAw := GDAw Nat
section
variable (K : PySem.W.Frag) (TT : List (Addr × Str)) (E : XK)
def LEw (f : GDEw S) : TE := fun σ H Q => ∃ ρ n P R, Rel K ρ n σ H ∧ f ρ n P R ∧ (∀ d ρ' m v H', P d ρ' m → Fra K TT n H m H' → Rel K ρ' m σ H' → Sees K m H' v d → Q v H') ∧ ExOk K TT E n H R
def LAw (f : GDAw S) : TA := fun σ H Q => ∃ ρ n P R, Rel K ρ n σ H ∧ f ρ n P R ∧ (∀ ds ρ' m vs H', P ds ρ' m → Fra K TT n H m H' → Rel K ρ' m σ H' → SeesL K m H' vs ds → Q vs H') ∧ ExOk K TT E n H R
end
section
variable {X : Cx} {TT : List (Addr × Str)} {E : XK} {e : Expr} {es : List Expr} {f : GDE S} {fr : GDA S} {fw : GDEw S} {frw : GDAw S} {pos : Pos}
def dLiftW (f : GDE S) : GDEw S := fun ρ n P R => f ρ n (fun d m => P d ρ m) R
def dLiftsW (f : GDA S) : GDAw S := fun ρ n P R => f ρ n (fun d m => P d ρ m) R
theorem dew_lift (h : PE X e (LE X.K TT E f)) : PE X e (LEw X.K TT E (dLiftW f)) := h.imp fun σ H Q ⟨ρ, n, P, R, r, q, k, x⟩ => ⟨ρ, n, _, R, r, q, fun d m v H' z g s => k d ρ m v H' z g.toFra (r.fre g) s, x.toE⟩
theorem daw_lift (h : PA X es (LA X.K TT E fr)) : PA X es (LAw X.K TT E (dLiftsW fr)) := h.imp fun σ H Q ⟨ρ, n, P, R, r, q, k, x⟩ => ⟨ρ, n, _, R, r, q, fun d m v H' z g s => k d ρ m v H' z g.toFra (r.fre g) s, x.toE⟩
def dConsW (f : GDEw S) (fr : GDAw S) : GDAw S := fun ρ n P R => f ρ n (fun d ρ1 m => fr ρ1 m (fun ds ρ2 j => P (d :: ds) ρ2 j) R) R
theorem daw_cons (h : PE X e (LEw X.K TT E fw)) (hr : PA X es (LAw X.K TT E frw)) (hs : starEach (e :: es) X.env = (false, eval e X.env) :: starEach es X.env := by rfl) : PA X (e :: es) (LAw X.K TT E (dConsW fw frw)) := (pa_cons h hr hs).imp fun σ H Q ⟨ρ, n, P, R, r, q, k, x⟩ =>
  ⟨ρ, n, _, R, r, q, fun d ρ1 m v H1 z g r1 s => ⟨ρ1, m, _, R, r1, z, fun ds ρ2 j vs H2 z2 g2 r2 s2 => k _ ρ2 j _ H2 z2 (g.trans g2) r2 (.cons (s.mono g2) s2), x.mono g⟩, x⟩
def dTupW (fr : GDAw S) : GDEw S := fun ρ n P R => fr ρ n (fun ds ρ1 m => ds.length ≤ sizeLine ∧ P (.tup ds) ρ1 m) R
theorem dew_tup {x1} (h : PA X es (LAw X.K TT E frw)) : PE X (.Tuple es x1 pos) (LEw X.K TT E (dTupW frw)) := (pe_tupN h).imp fun σ H Q ⟨ρ, n, P, R, r, q, k, x⟩ =>
  ⟨ρ, n, _, R, r, q, fun ds ρ1 m vs H1 z g r1 s => ⟨by rw [s.length]; exact z.1, fun p o hp ho => k _ ρ1 m _ _ z.2 (g.trans (.grow (.new hp))) (r1.grow (.new hp)) (.newT hp ho (by rw [s.length]; exact z.1) s)⟩, x⟩
def dCallW (sp : GDSp S) (fr : GDAw S) : GDEw S := fun ρ n P R => fr ρ n (fun ds ρ1 m => sp ds m (fun d j => P d ρ1 j) R) R
theorem lsp_goW {sp : GDSp S} {σ : L2.St} {H : Hp} {Q : VK} (h : LEw X.K TT E (dCallW sp frw) σ H Q) : LAw X.K TT E frw σ H fun vs H1 => spO (LSp X.K TT sp) vs H1 Q E := by
  obtain ⟨ρ, n, P, R, r, f, k, x⟩ := h
  refine ⟨ρ, n, _, R, r, f, fun ds ρ1 m vs H1 q e r1 s => ⟨S, _, m, ds, m, _, R, s.mono (TT := TT) Fra.cut, q, fun d j v G p g t gone => ?_, ⟨(Fra.cut (K := X.K) (n := m)).tab (e.tab x.tab), fun C d j dd v G p g hd t gone => ?_⟩, (Fra.cut (TT := TT)).st r1.st⟩, x⟩
  · have z := Fre.glue g r1.st gone
    exact k d ρ1 j v _ p (e.trans z.toFra) (r1.fre z) (t.grow (grow_glue gone))
  · exact x.ex C d j dd v _ p (e.trans (Fre.glue g r1.st gone).toFra) (grow_glue gone _ _ hd) (t.grow (grow_glue gone))
theorem dew_call {sp : GDSp S} {k j : Nat} {G : Bool} {x : Str} {p : Pos} (d : Df X.prog X.w X.K X.mg X.base G k x (LSp X.K TT sp)) (hr : Room j X.A) (hk : k ≤ j) (hg : G = true → X.A.guards = some []) (gl : Gl X x) (hx : Passes (L2.CX X.prog X.w) X E) (ha : PA X (e :: es) (LAw X.K TT E frw))
    (hdb : (x == ("__debug__" : Str)) = false := by decide) (he : starEach (e :: es) X.env = (false, eval e X.env) :: starEach es X.env := by rfl) (hpl : (backTo pos (starEach es X.env)).any (·.1) = false := by rfl) :
    PE X (.Call (.Name x p) (e :: es) [] pos) (LEw X.K TT E (dCallW sp frw)) := by
  obtain ⟨f, fd, ps, F, hm, hkp, hb⟩ := d.ex
  refine ⟨fun pins s σ H Q I h => wpAny_Call_Name_kw (ld_glob I gl hm ?_ hdb)⟩
  exact PySem.W.callWith_K (h₀ := X.base) I.ok.mod.kin hkp (thn (ha.run pos pins s σ H _ I (lsp_goW h)) fun us s1 ⟨vs, H1, I1, r, q⟩ => ⟨I1.kIn, run_dfO F (hr.mono hk) hg hb hx I1 r q⟩) he hpl
/-! xs.pop() -/
def tVarOf (i : Nat) : TE := fun σ H Q => ∃ l xs, σ[i]? = some (some (.ref l)) ∧ H l = some (OwnO xs l) ∧ Q (.ref l) (upd H l (.lst xs))
theorem pe_varOf {i : Nat} (h : PE X e (tVar i)) : PE X e (tVarOf i) := ⟨fun pins s σ H Q I ⟨l, xs, hσ, hH, q⟩ => h.run pins s σ _ Q (of_own I hH) ⟨_, hσ, q⟩⟩
theorem pe_toOwn {t : TE} (h : PE X e t) : PE X e (fun σ H Q => t σ H fun v H1 => ∃ l xs, H1 l = some (.lst xs) ∧ Q v (upd H1 l (OwnO xs l))) := ⟨fun pins s σ H Q I q => thn (h.run pins s σ H _ I q) fun u s1 ⟨v, H1, I1, r, l, xs, e, q1⟩ => ⟨v, _, to_own I1 e, r, q1⟩⟩
def dPop (i : Nat) : GDEw S := fun ρ n P _ => ownOf (slAt ρ i) fun ds => ∃ ds' d, ds = ds' ++ [d] ∧ P d (ρ.set i (.own ds')) n
theorem dew_pop {i : Nat} {apos : Pos} (h : PE X e (tVar i)) (hbase : attributeBase e "pop" X.env (eval e X.env) = eval e X.env := by rfl) (hline : (apos.endLine == pos.line) = true := by rfl) : PE X (.Call (.Attribute e "pop" apos) [] [] pos) (LEw (S := S) X.K TT E (dPop i)) :=
  (pe_toOwn (pe_bm0 PySem.F.plainAttrs_list PySem.F.slot_list_pop PySem.F.type_list_pop mt_pop (pe_varOf h) hbase hline)).imp fun σ H Q ⟨ρ, n, P, R, rl, q, k, x⟩ => by
    obtain ⟨ds, hρ, ds', d, rfl, q⟩ := ownOf_of q
    obtain ⟨a, xs, hσ, l, hH, hs, sx⟩ := rl.owned hρ
    have hl := sx.length
    rw [List.length_append, List.length_singleton] at hl
    obtain ⟨y, hy, sy⟩ := sx.getD (i := ds'.length) (d := d) (by simp)
    have sx' : SeesL X.K n H xs.dropLast ds' := by
      have z := sx.take ds'.length
      rw [List.take_left] at z
      rw [List.dropLast_eq_take, show xs.length - 1 = ds'.length by omega]
      exact z
    refine ⟨a, xs, hσ, hH, .inl ⟨rfl, xs, SqL.of upd_same⟩, a, xs, y, rfl, rfl, upd_same, by rw [show xs.length - 1 = ds'.length by omega]; exact hy, a, xs.dropLast, upd_same, ?_⟩
    rw [upd_upd, upd_upd]
    exact k d _ n y _ q (.own hH hs) (rl.write hρ hσ l hH hs (by rw [List.length_dropLast]; omega) sx') (sy.mono (TT := TT) (.own hH hs))
/-! statements with them -/
def dAsgW (i : Nat) (f : GDEw S) : GDS S := fun P ρ n => f ρ n (fun d ρ' m => P.nx (ρ'.set i (.val d)) m) P.ex
theorem ds_asgW {i : Nat} {st : Stmt} (h : PS X st (tAsg (LEw X.K TT E fw) (gName i))) : PS X st (LS X.K TT E (dAsgW i fw)) := h.imp fun D σ H ⟨ρ, n, P, r, q, k⟩ => ⟨ρ, n, _, P.ex, r, q, fun d ρ' m v H' z g r' s => k.nx _ m _ H' z g (r'.put s), k.ex⟩
def dRetW (f : GDEw S) : GDS S := fun P ρ n => f ρ n (fun d _ m => P.rt d m) P.ex
theorem ds_retW (h : PE X e (LEw X.K TT E fw)) : PS X (.Return (some e) pos) (LS X.K TT E (dRetW fw)) := (ps_ret h).imp fun D σ H ⟨ρ, n, P, r, q, k⟩ => ⟨ρ, n, _, P.ex, r, q, fun d ρ' m v H' z g r' s => k.rt d m v H' z g s, k.ex⟩
def dOMw (i : Nat) (g : GO) (f : GDAw S) : GDS S := fun P ρ n => ownOf (slAt ρ i) fun _ => f ρ n (fun as ρ' m => ownOf (slAt ρ' i) fun ds => g ds as fun ds' => P.nx (ρ'.set i (.own ds')) m) P.ex
theorem ds_omW {i : Nat} {st : Stmt} {r : V → List V → Hp → VK → Prop} {g : GO} (o : OwnD X.K r g) (h : PS X st (tOM i r (LAw X.K TT E frw))) : PS X st (LS X.K TT E (dOMw i g frw)) := h.imp fun D σ H ⟨ρ, n, P, rl, q, k⟩ => by
  obtain ⟨ds, hρ, q⟩ := ownOf_of q
  obtain ⟨a, xs, hσ, l, hH, hs, sx⟩ := rl.owned hρ
  refine ⟨a, xs, hσ, hH, ρ, n, _, P.ex, rl, q, fun as ρ' m vs H1 q1 e1 r1 s1 => ?_, k.ex⟩
  obtain ⟨ds', hρ', q1⟩ := ownOf_of q1
  obtain ⟨a', ys, hσ', l', h1, hs1, sy⟩ := r1.owned hρ'
  rw [hσ] at hσ'
  cases hσ'
  refine ⟨ys, h1, o m a ys vs ds' as H1 _ _ _ q1 sy s1 upd_same l' fun ds2 xs' q2 s2 l2 => ⟨xs', upd_same, ?_⟩⟩
  rw [upd_upd, upd_upd]
  exact k.nx _ m _ _ q2 (e1.trans (.own h1 hs1)) (r1.write hρ' hσ l' h1 hs1 l2 s2)
/-! xs[i] = e, xs an own list -/
def rSetO : TSet := fun o i v H Q => ∃ l ys, o = .ref l ∧ H l = some (OwnO ys l) ∧ rSetL o i v (upd H l (.lst ys)) fun H2 => ∃ zs, H2 l = some (.lst zs) ∧ Q (upd H2 l (OwnO zs l))
theorem set_own : PSet X rSetO := fun pins s σ H o i v ov iv u Q I r1 r2 r3 ⟨l, ys, e, hH, q⟩ => thn (set_list pins s σ _ o i v ov iv u _ (of_own I hH) r1 r2 r3 q) fun _ s1 ⟨H2, I2, zs, e2, q2⟩ => ⟨_, to_own I2 e2, q2⟩
def dSetO (i : Nat) (fe fi : GDE S) : GDS S := fun P ρ n => fe ρ n (fun v m => ownOf (slAt ρ i) fun ds => fi ρ m (fun k j => asI k fun z => ∃ q : Nat, z = q ∧ q < ds.length ∧ P.nx (ρ.set i (.own (ds.set q v))) j) P.ex) P.ex
theorem ds_setO {i : Nat} {st : Stmt} {fe fi : GDE S} (h : PS X st (tAsg (LE X.K TT E fe) (gSub (tVar i) (LE X.K TT E fi) rSetO))) : PS X st (LS X.K TT E (dSetO i fe fi)) := h.imp fun D σ H ⟨ρ, n, P, rl, q, k⟩ => by
  refine ⟨ρ, n, _, P.ex, rl, q, fun v m x H1 q1 e1 s1 => ?_, k.ex.toE⟩
  obtain ⟨ds, hρ, q1⟩ := ownOf_of q1
  obtain ⟨a, xs, hσ, _, _, _⟩ := rl.owned hρ
  refine ⟨.ref a, hσ, ρ, m, _, P.ex, rl.fre e1, q1, fun k2 j y H2 z e2 s2 => ?_, (k.ex.mono e1.toFra).toE⟩
  obtain ⟨i2, rfl, z⟩ := asI_of z
  obtain ⟨q2, rfl, hq, z⟩ := z
  have r2 := (rl.fre e1).fre e2
  obtain ⟨a', xs, hσ', l, hH, hs, sx⟩ := r2.owned hρ
  rw [hσ] at hσ'
  cases hσ'
  refine ⟨a, xs, rfl, hH, a, xs, _, q2, rfl, s2.int_iff, upd_same, ?_, xs.set q2 x, upd_same, ?_⟩
  · have := sx.length
    unfold ixN
    rw [if_pos (by omega), if_pos (by omega)]
    simp
  · rw [upd_upd, upd_upd]
    exact k.nx _ j _ _ z ((e1.trans e2).toFra.trans (.own hH hs)) (r2.write hρ hσ l hH hs (by rw [List.length_set]; exact l) (sx.set (s1.mono e2.toFra) q2))
/-! several names at once, own lists among them -/
abbrev GDAs (S : Type) := List Sl → S → (List Sl → S → Prop) → GRX S → Prop
inductive SlRs (K : PySem.W.Frag) (n : S) (H : Hp) : List Sl → List V → Prop
  | nil : SlRs K n H [] []
  | cons {s : Sl} {v : V} {ss : List Sl} {vs : List V} : SlR K n H s (some v) → (∀ a C ks ds, s ≠ .ins a C ks ds) → SlRs K n H ss vs → SlRs K n H (s :: ss) (v :: vs)
/-- own lists there are new since H, each another one -/
def NewO (n : S) (H : Hp) : List Sl → List V → Prop
  | .own _ :: ss, .ref a :: vs => (∀ {sh : Shp} (xs : List V), H a = some (OwnS sh xs a) → sto n a ≠ none) ∧ (∀ (j : Nat) ds, ss[j]? = some (.own ds) → vs[j]? ≠ some (.ref a)) ∧ NewO n H ss vs
  | _ :: ss, _ :: vs => NewO n H ss vs
  | _, _ => True
def LAs (K : PySem.W.Frag) (TT : List (Addr × Str)) (E : XK) (f : GDAs S) : TA := fun σ H Q => ∃ ρ n P R, Rel K ρ n σ H ∧ f ρ n P R ∧ (∀ ss m vs H', P ss m → Fre K TT n H m H' → SlRs K m H' ss vs → NewO n H ss vs → Q vs H') ∧ ExE K TT E n H R
theorem SlRs.length {K : PySem.W.Frag} {n : S} {H : Hp} {ss : List Sl} {vs : List V} (h : SlRs K n H ss vs) : vs.length = ss.length := by
  induction h with
  | nil => rfl
  | cons _ _ _ ih => exact congrArg (· + 1) ih
theorem SlR.fre {K : PySem.W.Frag} {TT : List (Addr × Str)} {n m : S} {H H' : Hp} {s : Sl} {o : Option V} (h : SlR K n H s o) (e : Fre K TT n H m H') : SlR K m H' s o := h.mono e.toFra (fun a xs _ _ hH hs _ => ⟨(e.own a xs hH hs).1.trans hH.symm, (e.own a xs hH hs).2⟩) fun C x dx ks ds xs _ _ hx hd s1 s2 => ⟨⟨(e.own dx xs hd s2).1.trans hd.symm, (e.own x [] hx s1).1.trans hx.symm⟩, (e.own x [] hx s1).2, (e.own dx xs hd s2).2⟩
theorem SlRs.fre {K : PySem.W.Frag} {TT : List (Addr × Str)} {n m : S} {H H' : Hp} {ss : List Sl} {vs : List V} (h : SlRs K n H ss vs) (e : Fre K TT n H m H') : SlRs K m H' ss vs := by
  induction h with
  | nil => exact .nil
  | cons a b _ ih => exact .cons (a.fre e) b ih
theorem NewO.older {K : PySem.W.Frag} {TT : List (Addr × Str)} {n m : S} {H H' : Hp} (e : Fre K TT n H m H') : ∀ {ss : List Sl} {vs : List V}, NewO m H' ss vs → NewO n H ss vs
  | [], _, _ => by unfold NewO; first | trivial | (split <;> trivial)
  | s :: ss, [], _ => by cases s <;> trivial
  | s :: ss, v :: vs, h => by
    cases s <;> cases v <;> first
      | exact NewO.older e (ss := ss) (vs := vs) h
      | (exact ⟨fun {sh} xs z zs => h.1 xs (e.own _ xs z zs).1 (e.own _ xs z zs).2, h.2.1, NewO.older e h.2.2⟩)
theorem NewO.at {n : S} {H : Hp} {a : Addr} {ds : List Dat} : ∀ {ss : List Sl} {vs : List V} {i : Nat}, NewO n H ss vs → ss[i]? = some (.own ds) → vs[i]? = some (.ref a) → ∀ {sh : Shp} (xs : List V), H a = some (OwnS sh xs a) → sto n a ≠ none
  | [], _, i, _, h, _ => by simp at h
  | _ :: _, [], i, _, _, h => by simp at h
  | s :: ss, v :: vs, 0, n', h1, h2 => by
    simp at h1 h2
    subst h1
    subst h2
    exact n'.1
  | s :: ss, v :: vs, i + 1, n', h1, h2 => by
    have n' : NewO n H ss vs := by
      cases s <;> cases v <;> first
        | exact n'
        | exact n'.2.2
    exact NewO.at n' (by simpa using h1) (by simpa using h2)
theorem das_nil : PA X [] (LAs (S := S) X.K TT E fun _ n P _ => P [] n) := pa_nil.imp fun σ H Q ⟨ρ, n, P, R, rl, f, k, x⟩ => k [] n [] H f .refl .nil trivial
def dConsV (f : GDE S) (fr : GDAs S) : GDAs S := fun ρ n P R => f ρ n (fun d m => fr ρ m (fun ss j => P (.val d :: ss) j) R) R
def dConsO (f : GDA S) (fr : GDAs S) : GDAs S := fun ρ n P R => f ρ n (fun d m => fr ρ m (fun ss j => P (.own d :: ss) j) R) R
theorem das_val {frs : GDAs S} (h : PE X e (LE X.K TT E f)) (hr : PA X es (LAs X.K TT E frs)) (hs : starEach (e :: es) X.env = (false, eval e X.env) :: starEach es X.env := by rfl) : PA X (e :: es) (LAs X.K TT E (dConsV f frs)) := (pa_cons h hr hs).imp fun σ H Q ⟨ρ, n, P, R, rl, q, k, x⟩ =>
  ⟨ρ, n, _, R, rl, q, fun d m v H1 z e1 s => ⟨ρ, m, _, R, rl.fre e1, z, fun ss j vs H2 z2 e2 s2 n2 => k _ j _ H2 z2 (e1.trans e2) (.cons (.val (s.mono e2.toFra)) (fun _ _ _ _ z => nomatch z) s2) (NewO.older e1 n2), x.mono e1⟩, x⟩
theorem das_own {frs : GDAs S} (h : PE X e (LF X.K TT E fr)) (hr : PA X es (LAs X.K TT E frs)) (hs : starEach (e :: es) X.env = (false, eval e X.env) :: starEach es X.env := by rfl) : PA X (e :: es) (LAs X.K TT E (dConsO fr frs)) := (pa_cons (pe_toOwn h) hr hs).imp fun σ H Q ⟨ρ, n, P, R, rl, q, k, x⟩ =>
  ⟨ρ, n, _, R, rl, q, fun ds m xs p H1 z h0 h1 l hs e1 s => ⟨p, xs, h1, ρ, m, _, R, rl.fre e1, z, fun ss j vs H2 z2 e2 s2 n2 => k _ j _ H2 z2 (e1.trans e2) (.cons (.own l (e2.own _ _ upd_same hs).1 (e2.own _ _ upd_same hs).2 (s.mono e2.toFra)) (fun _ _ _ _ z => nomatch z) s2) ⟨h0, fun i ds' hi hv => n2.at hi hv (sh := .lst) xs upd_same hs, NewO.older e1 n2⟩, x.mono e1⟩, x⟩
/-- the slot's new state -/
theorem Rel.putS {K : PySem.W.Frag} {n : S} {H : Hp} {ρ : List Sl} {σ : L2.St} {i : Nat} {s : Sl} {v : V} (r : Rel K ρ n σ H) (h : SlR K n H s (some v)) (ni : ∀ a C ks ds, s ≠ .ins a C ks ds) (no : ∀ a ds, s = .own ds → v = .ref a → ∀ j b, j ≠ i → Owns ρ σ j b → b ≠ a) : Rel K (ρ.set i s) n (σ.set i (some v)) H := by
  cases h with
  | no => exact r.drop
  | val h => exact r.put h
  | own l h1 hs h2 => exact r.putOwn l h1 hs h2 (no _ _ rfl rfl)
  | ins _ _ _ _ _ => exact absurd rfl (ni _ _ _ _)
def putAll : List Nat → List Sl → List Sl → List Sl
  | i :: is, s :: ss, ρ => putAll is ss (ρ.set i s)
  | _, _, ρ => ρ
def gNames : List Nat → TGs
  | [] => gNil
  | i :: is => gCons (gName i) (gNames is)
theorem names_go {K : PySem.W.Frag} {n n' : S} {H H' : Hp} {Q : L2.St → Hp → Prop} : ∀ {is : List Nat} {ss : List Sl} {vs : List V} {ρ : List Sl} {σ : L2.St}, Rel K ρ n σ H → SlRs K n H ss vs → is.length = ss.length → (∀ (i : Nat) a ds j b, ss[i]? = some (.own ds) → vs[i]? = some (.ref a) → Owns ρ σ j b → b ≠ a) → NewO n' H' ss vs →
    (∀ σ', Rel K (putAll is ss ρ) n σ' H → Q σ' H) → gNames is vs σ H Q
  | [], [], _, ρ, σ, r, .nil, _, _, _, k => ⟨rfl, k σ r⟩
  | [], _ :: _, _, _, _, _, _, l, _, _, _ => by simp at l
  | _ :: _, [], _, _, _, _, _, l, _, _, _ => by simp at l
  | i :: is, s :: ss, v :: vs, ρ, σ, r, .cons h ni hs, l, no, nw, k => by
    have nw' : NewO n' H' ss vs := by
      cases s <;> cases v <;> first
        | exact nw
        | exact nw.2.2
    refine ⟨v, vs, rfl, names_go (r.putS h ni fun a ds e1 e2 j b hj ow => no 0 a ds j b (by simp [e1]) (by simp [e2]) ow) hs (by simpa using l) (fun i2 a ds j b h1 h2 ow => ?_) nw' k⟩
    obtain ⟨⟨ds', e1⟩, e2⟩ := ow
    by_cases hij : i = j
    · subst hij
      rw [List.getElem?_set] at e1 e2
      split at e1
      · split at e1
        · rename_i hl
          cases e1
          split at e2
          · split at e2
            · injection e2 with e2
              injection e2 with e2
              subst e2
              intro z
              subst z
              exact nw.2.1 i2 ds h1 h2
            · cases e2
          · rename_i z
            exact absurd rfl z
        · cases e1
      · rename_i z
        exact absurd rfl z
    · rw [List.getElem?_set_ne hij] at e1 e2
      exact no (i2 + 1) a ds j b (by simpa using h1) (by simpa using h2) ⟨⟨ds', e1⟩, e2⟩
/-- a, b, .. = x, y, .. -/
def dNames (is : List Nat) (fs : GDAs S) : GDS S := fun P ρ n => fs ρ n (fun ss m => ss.length = is.length ∧ is.length ≤ 20 ∧ P.nx (putAll is ss ρ) m) P.ex
theorem LS.names {K : PySem.W.Frag} {TT : List (Addr × Str)} {E : XK} {is : List Nat} {fs : GDAs S} {D : Ends} {σ : L2.St} {H : Hp} (h : LS K TT E (dNames is fs) D σ H) : LAs K TT E fs σ H fun vs H1 => vs.length = is.length ∧ is.length ≤ 20 ∧ ∀ H2, Grow H1 H2 → gNames is vs σ H2 D.nx := by
  obtain ⟨ρ, n, P, rl, q, k⟩ := h
  refine ⟨ρ, n, _, P.ex, rl, q, fun ss m vs H1 z e s nw => ⟨by rw [s.length]; exact z.1, z.2.1, fun H2 g => ?_⟩, k.ex.toE⟩
  have e2 : Fre K TT m H1 m H2 := .grow g
  refine names_go (n' := n) (H' := H) ((rl.fre e).fre e2) (s.fre e2) z.1.symm (fun i a ds j b h1 h2 ow w => ?_) nw fun σ' r => k.nx _ m σ' H2 z.2.2 (e.trans e2).toFra r
  subst w
  obtain ⟨⟨ds', e1⟩, e3⟩ := ow
  obtain ⟨a', xs, hσ, _, hH, hs, _⟩ := rl.owned e1
  rw [e3] at hσ
  cases hσ
  exact nw.at h1 h2 xs hH hs
theorem ds_names2 {i j : Nat} {st : Stmt} {fs : GDAs S} (h : PS X st (tPar i j (LAs X.K TT E fs))) : PS X st (LS X.K TT E (dNames [i, j] fs)) := h.imp fun D σ H q => by
  obtain ⟨ρ, n, P, R, rl, f, k, x⟩ := q.names
  refine ⟨ρ, n, P, R, rl, f, fun ss m vs H1 z e s nw => ?_, x⟩
  obtain ⟨l, _, q⟩ := k ss m vs H1 z e s nw
  have q2 := q H1 (.refl _)
  clear q
  obtain ⟨v, r, rfl, w, r2, rfl, rfl, q⟩ := q2
  exact ⟨v, w, rfl, q⟩
theorem ds_names {is : List Nat} {st : Stmt} {fs : GDAs S} {k0 : Nat} (hk : k0 = is.length) (h : PS X st (tAsg (tTup (LAs X.K TT E fs)) (gTup X.K k0 (gNames is)))) : PS X st (LS X.K TT E (dNames is fs)) := h.imp fun D σ H q => by
  obtain ⟨ρ, n, P, R, rl, f, k, x⟩ := q.names
  refine ⟨ρ, n, P, R, rl, f, fun ss m vs H1 z e s nw => ?_, x⟩
  obtain ⟨l, l2, q⟩ := k ss m vs H1 z e s nw
  refine ⟨by rw [l, sizeLine_eq]; omega, fun p hp => ⟨p, vs, rfl, .inl (.inl upd_same), l.trans hk.symm, q _ (.new hp)⟩⟩
end
end Aim

namespace Aim
open PySem PySem.Spec PyProof.Rows L2
open LamX (TabB Tabs CodeO)
open Stt (cnt sto)
variable {S : Type} [Stt S]
/-! ### *e in a display -/
section
variable {X : Cx} {TT : List (Addr × Str)} {E : XK} {e : Expr} {es : List Expr} {f : GDE S} {fr : GDA S} {p : Pos}
def seqOf : Dat → (List Dat → Prop) → Prop
  | .lst ds, P => P ds
  | .tup ds, P => P ds
  | _, _ => False
def dStar (f : GDE S) (fr : GDA S) : GDA S := fun ρ n P R => f ρ n (fun d m => seqOf d fun ds => fr ρ m (fun es j => P (ds ++ es) j) R) R
theorem da_star (h : PE X e (LE X.K TT E f)) (hr : PA X es (LA X.K TT E fr)) (hs : starEach (.Starred e p :: es) X.env = (true, eval e X.env) :: starEach es X.env := by rfl) : PA X (.Starred e p :: es) (LA X.K TT E (dStar f fr)) := (StX.pa_star h hr hs).imp fun σ H Q ⟨ρ, n, P, R, r, q, k, x⟩ => by
  refine ⟨ρ, n, _, R, r, q, fun d m v H1 z e1 s => ?_, x⟩
  have go : ∃ ds l xs, v = .ref l ∧ (SqT X.K H1 l xs ∨ SqL X.K H1 l xs) ∧ SeesL X.K m H1 xs ds ∧ fr ρ m (fun es j => P (ds ++ es) j) R := by
    unfold seqOf at z
    split at z
    · obtain ⟨l, xs, ev, h1, _, sx⟩ := s.lst_iff
      exact ⟨_, l, xs, ev, .inr h1, sx, z⟩
    · obtain ⟨l, xs, ev, h1, _, sx⟩ := s.tup_iff
      exact ⟨_, l, xs, ev, .inl h1, sx, z⟩
    · exact z.elim
  obtain ⟨ds, l, xs, ev, hs, sx, z⟩ := go
  exact ⟨l, xs, ev, hs, ρ, m, _, R, r.fre e1, z, fun es j ys H2 z2 e2 s2 => k _ j _ H2 z2 (e1.trans e2) ((sx.mono e2.toFra).append s2), x.mono e1⟩
end
/-! ### two fors in a comprehension -/
def plainSl (ρ : List Sl) : Bool := ρ.all fun
  | .no => true
  | .val _ => true
  | _ => false
theorem plainSl_no {ρ : List Sl} {i : Nat} {s : Sl} (p : plainSl ρ = true) (h : ρ[i]? = some s) : s = .no ∨ ∃ d, s = .val d := by
  have z := List.all_eq_true.mp p s (List.mem_of_getElem? h)
  cases s <;> first | exact .inl rfl | exact .inr ⟨_, rfl⟩ | cases z
theorem Rel.plain {K : PySem.W.Frag} {TT : List (Addr × Str)} {n m : S} {H H' : Hp} {ρ : List Sl} {σ : L2.St} (r : Rel K ρ n σ H) (p : plainSl ρ = true) (f : Fra K TT n H m H') : Rel K ρ m σ H' := r.mono f (fun i a xs ⟨⟨ds, e⟩, _⟩ => by
  rcases plainSl_no p e with z | ⟨d, z⟩ <;> cases z) fun i C x dx ks ds xs e => by
  rcases plainSl_no p e with z | ⟨d, z⟩ <;> cases z
def compI2 (l l1 : List Nat) (tg : DG) (tt : GDT S) (fi1 : GDI S) (tg1 : DG) (tt1 : GDT S) (fe : GDE S) (ρ : List Sl) (P : List Dat → S → Prop) (ds : List Dat) (m : S) : Prop := ∃ I : Nat → List Dat → S → Prop, I 0 [] m ∧
  (∀ i d acc j, ds[i]? = some d → I i acc j → tg d (wiped ρ l) fun ρ' => plainSl ρ' = true ∧ tt ρ' j (fun b k => if b = true then fi1 ρ' k (fun es k2 => ∃ I1 : Nat → List Dat → S → Prop, I1 0 acc k2 ∧
     (∀ i1 e acc1 j1, es[i1]? = some e → I1 i1 acc1 j1 → tg1 e (wiped ρ' l1) fun ρ2 => tt1 ρ2 j1 (fun b k3 => if b = true then fe ρ2 k3 (fun y z => acc1.length < 1000000 ∧ I1 (i1 + 1) (acc1 ++ [y]) z) R0 else I1 (i1 + 1) acc1 k3) R0) ∧
     ∀ acc1 j1, I1 es.length acc1 j1 → I (i + 1) acc1 j1) R0 else I (i + 1) acc k) R0) ∧ ∀ acc j, I ds.length acc j → P acc j
def dLc2 (fi : GDI S) (l l1 : List Nat) (tg : DG) (tt : GDT S) (fi1 : GDI S) (tg1 : DG) (tt1 : GDT S) (fe : GDE S) : GDA S := fun ρ n P R => fi ρ n (fun ds m => compI2 l l1 tg tt fi1 tg1 tt1 fe ρ P ds m) R
def iHide (t : TI) : TI := fun σ H R => ∃ D xs, H D = some (.lst xs) ∧ t σ (upd H D (OwnO xs D)) fun J H' => H' D = some (OwnO xs D) ∧ R J (upd H' D (.lst xs))
theorem pi_hide {X : Cx} {tg e : Expr} {t : TI} (h : PI X tg e t) : PI X tg e (iHide t) := ⟨fun pins s σ H R I ⟨D, xs, hD, q⟩ => thn (h.run pins s σ _ _ (to_own I hD) q) fun xv s1 hx => thn hx fun itv s2 ⟨it, fp, tn, J, H', e, I2, T, st, f, e1, q'⟩ => ⟨it, fp, tn, J, _, e, of_own I2 e1, T, st, fun b hb => ⟨by
  rw [upd_ne fun z => by have := (f b hb).1; rw [z, e1] at this; cases this]
  exact (f b hb).1, (f b hb).2⟩, q'⟩⟩
/-- what is gathered, hidden: since m, H1 -/
def Coll (K : PySem.W.Frag) (TT : List (Addr × Str)) (D : Addr) (m : S) (H1 : Hp) (m' : S) (H' : Hp) (xs : List V) (as : List Dat) : Prop := H' D = some (.lst xs) ∧ xs.length ≤ sizeLine ∧ Fre K TT m H1 m' (upd H' D (OwnO xs D)) ∧ SeesL K m' (upd H' D (OwnO xs D)) xs as ∧ sto m' D = none
section
variable {K : PySem.W.Frag} {TT : List (Addr × Str)} {E : XK} {X : Cx} {D : Addr} {m m' : S} {H1 H' : Hp} {xs : List V} {as : List Dat}
theorem Coll.back (c : Coll K TT D m H1 m' H' xs as) : upd (upd H' D (OwnO xs D)) D (.lst xs) = H' := upd_back c.1
theorem Coll.fra (c : Coll K TT D m H1 m' H' xs as) : Fra K TT m H1 m' H' := by
  have z := c.2.2.1.toFra.trans (Fra.melt (TT := TT) (n := m') (ys := xs) c.2.1 (show upd H' D (OwnO xs D) D = some (OwnO xs D) from upd_same) c.2.2.2.2)
  rw [c.back] at z
  exact z
/-- the iterator gives something new -/
theorem Coll.grow {H2 : Hp} (c : Coll K TT D m H1 m' H' xs as) (g : Grow H' H2) : Coll K TT D m H1 m' H2 xs as ∧ Grow (upd H' D (OwnO xs D)) (upd H2 D (OwnO xs D)) := by
  have gr : Grow (upd H' D (OwnO xs D)) (upd H2 D (OwnO xs D)) := fun b o w => by
    by_cases hb : b = D
    · subst hb
      rw [upd_same] at w ⊢
      exact w
    · rw [upd_ne hb] at w ⊢
      exact g b o w
  exact ⟨⟨g _ _ c.1, c.2.1, c.2.2.1.trans (.grow gr), c.2.2.2.1.grow gr, c.2.2.2.2⟩, gr⟩
/-- an expression has run, the list hidden -/
theorem Coll.step {m2 : S} {H2 : Hp} (c : Coll K TT D m H1 m' H' xs as) (e : Fre K TT m' (upd H' D (OwnO xs D)) m2 H2) : H2 D = some (OwnO xs D) ∧ upd (upd H2 D (.lst xs)) D (OwnO xs D) = H2 ∧ Coll K TT D m H1 m2 (upd H2 D (.lst xs)) xs as := by
  have o : H2 D = some (OwnO xs D) := (e.own _ _ upd_same c.2.2.2.2).1
  have b : upd (upd H2 D (.lst xs)) D (OwnO xs D) = H2 := upd_back o
  exact ⟨o, b, upd_same, c.2.1, by rw [b]; exact c.2.2.1.trans e, by rw [b]; exact c.2.2.2.1.mono e.toFra, (e.own _ _ upd_same c.2.2.2.2).2⟩
/-- one more -/
theorem Coll.push {y : V} {d : Dat} (c : Coll K TT D m H1 m' H' xs as) (hD : H1 D = none) (l : xs.length + 1 ≤ sizeLine) (s : Sees K m' (upd H' D (OwnO xs D)) y d) : Coll K TT D m H1 m' (upd H' D (.lst (xs ++ [y]))) (xs ++ [y]) (as ++ [d]) := by
  have eq : upd (upd H' D (.lst (xs ++ [y]))) D (OwnO (xs ++ [y]) D) = upd (upd H' D (OwnO xs D)) D (OwnO (xs ++ [y]) D) := by rw [upd_upd, upd_upd]
  have fo : Fra K TT m' (upd H' D (OwnO xs D)) m' (upd (upd H' D (OwnO xs D)) D (OwnO (xs ++ [y]) D)) := .own upd_same c.2.2.2.2
  refine ⟨upd_same, by rw [List.length_append, List.length_singleton]; exact l, ?_, ?_, c.2.2.2.2⟩
  · rw [eq]
    refine ⟨c.2.2.1.toFra.trans fo, fun b ys w ws => ?_⟩
    have bD : b ≠ D := fun z => by rw [z, hD] at w; cases w
    rw [upd_ne bD]
    exact c.2.2.1.own b ys w ws
  · rw [eq]
    exact (c.2.2.2.1.mono fo).append (.cons (s.mono fo) .nil)
theorem comp2_of {l l1 : List Nat} {tg tg1 : DG} {tt tt1 : GDT S} {fe : GDE S} {fi fi1 : GDI S} {ρ : List Sl} {P : List Dat → S → Prop} {σ : L2.St} {H : Hp} {vs vs1 : List Nat} {Q : VK} (hl : ∀ i ∈ vs, i ∈ l) (hl1 : ∀ i ∈ vs1, i ∈ l1) (h : LF K TT E (dLc2 fi l l1 tg tt fi1 tg1 tt1 fe) σ H Q) :
    tLc2 (LI K TT E fi) (gHide (LG (S := S) K vs tg)) (tHideT (LTs K TT E0 tt)) (iHide (LI K TT E0 fi1)) (gHide (LG (S := S) K vs1 tg1)) (tHideT (LTs K TT E0 tt1)) (tHide (LE K TT E0 fe)) l l1 σ H Q := by
  obtain ⟨ρ, n, P, R, r, f, k, x⟩ := h
  refine ⟨ρ, n, _, R, r, f, fun ds m J H1 q e it D hD => ?_, x⟩
  obtain ⟨I, i0, st, dn⟩ := q
  have tab1 := e.tab x.tab
  have r1 := r.fre e
  have hD0 : ∀ {sh : Shp} (ys : List V), H D = some (OwnS sh ys D) → sto n D ≠ none := fun ys w ws => by rw [(e.own D ys w ws).1] at hD; cases hD
  have sD : sto m D = none := r1.st.free hD
  have c0 : Coll K TT D m H1 m (upd H1 D (.lst [])) [] [] := ⟨upd_same, Nat.zero_le _, by rw [upd_upd]; exact .grow (.new hD), .nil, sD⟩
  refine ⟨fun i j H' => j = ds.length - i ∧ i ≤ ds.length ∧ ∃ m' xs as, Coll K TT D m H1 m' H' xs as ∧ I i as m', ⟨ds.length, by simp, Nat.zero_le _, m, [], [], c0, i0⟩, ?_⟩
  rintro i j H' ⟨rfl, hi, m', xs, as, c, hI⟩
  by_cases hlt : ¬ i < ds.length
  · have e2 : i = ds.length := by omega
    subst e2
    exact .inl ⟨it.stops _ _ c.fra, k as m' xs D H' (dn _ _ hI) hD0 c.1 c.2.1 c.2.2.2.2 (e.trans c.2.2.1) c.2.2.2.1⟩
  have hlt := Decidable.not_not.mp hlt
  have hs := st i _ as m' (List.getElem?_eq_getElem hlt) hI
  refine .inr ⟨it.goes i _ _ hlt c.fra, fun H2 => ∃ m2 ys bs, Coll K TT D m H1 m2 H2 ys bs ∧ I (i + 1) bs m2, fun H2 z => ⟨ds.length - (i + 1), by omega, rfl, hlt, z⟩, fun x H2 y => ?_⟩
  obtain ⟨gr, sx2⟩ := it.yields i m' H' x H2 _ (List.getElem?_eq_getElem hlt) c.fra y
  obtain ⟨c2, gr2⟩ := c.grow gr
  have sx3 := sx2 _ c2.2.2.1.toFra fun b o w1 w2 => by
    rw [upd_ne fun z => by rw [z, c.1] at w2; cases w2]
    exact w1
  refine ⟨D, xs, c2.1, _, m', _, _, (r1.fre c2.2.2.1).wipe l, sx3, hs, fun ρ3 σ3 q3 r3 w3 => ⟨upd_same, ?_⟩⟩
  rw [c2.back]
  obtain ⟨pl, q3⟩ := q3
  refine ⟨(w3 l hl).trans (wipe_wipe σ l), D, xs, c2.1, ρ3, m', _, _, r3, q3, fun b m3 H3 q4 e3 => ?_, .zero (c2.2.2.1.tab tab1)⟩
  obtain ⟨o3, b3, c3⟩ := c2.step e3
  refine ⟨o3, ?_⟩
  cases b with
  | false => exact ⟨m3, xs, as, c3, q4⟩
  | true =>
    have q4 : fi1 ρ3 m3 _ _ := q4
    refine ⟨D, xs, upd_same, ?_⟩
    rw [b3]
    refine ⟨ρ3, m3, _, _, r3.fre e3, q4, fun es m4 J1 H4 q5 e4 it1 => ?_, .zero ((c2.2.2.1.trans e3).tab tab1)⟩
    obtain ⟨I1, j0, st1, dn1⟩ := q5
    have c3' : Coll K TT D m H1 m3 (upd H3 D (.lst xs)) xs as := c3
    have e4' : Fre K TT m3 (upd (upd H3 D (.lst xs)) D (OwnO xs D)) m4 H4 := by rw [b3]; exact e4
    obtain ⟨o4, b4, c4⟩ := c3'.step e4'
    have r4 := (r3.fre e3).fre e4
    refine ⟨o4, fun j1 k1 H' => k1 = es.length - j1 ∧ j1 ≤ es.length ∧ ∃ m' xs as, Coll K TT D m H1 m' H' xs as ∧ Fra K TT m4 H4 m' (upd H' D (OwnO xs D)) ∧ I1 j1 as m', ⟨es.length, by simp, Nat.zero_le _, m4, xs, as, c4, by rw [b4]; exact .refl, j0⟩, ?_⟩
    rintro j1 k1 H5 ⟨rfl, hj, m5, zs, bs, c5, f5, hI1⟩
    have melt5 : Fra K TT m4 H4 m5 H5 := by
      have z := f5.trans (Fra.melt (TT := TT) (n := m5) (ys := zs) c5.2.1 (show upd H5 D (OwnO zs D) D = some (OwnO zs D) from upd_same) c5.2.2.2.2)
      rw [c5.back] at z
      exact z
    by_cases hlt1 : ¬ j1 < es.length
    · have e2 : j1 = es.length := by omega
      subst e2
      exact .inl ⟨it1.stops _ _ melt5, m5, zs, bs, c5, dn1 _ _ hI1⟩
    have hlt1 := Decidable.not_not.mp hlt1
    have hs1 := st1 j1 _ bs m5 (List.getElem?_eq_getElem hlt1) hI1
    refine .inr ⟨it1.goes j1 _ _ hlt1 melt5, fun H6 => ∃ m2 ys as, Coll K TT D m H1 m2 H6 ys as ∧ Fra K TT m4 H4 m2 (upd H6 D (OwnO ys D)) ∧ I1 (j1 + 1) as m2, fun H6 z => ⟨es.length - (j1 + 1), by omega, rfl, hlt1, z⟩, fun x6 H6 y6 => ?_⟩
    obtain ⟨gr6, sx6⟩ := it1.yields j1 m5 H5 x6 H6 _ (List.getElem?_eq_getElem hlt1) melt5 y6
    obtain ⟨c6, gro6⟩ := c5.grow gr6
    have f6 : Fra K TT m4 H4 m5 (upd H6 D (OwnO zs D)) := f5.trans (.grow gro6)
    have sx7 := sx6 _ f6 fun b o w1 w2 => by
      rw [upd_ne fun z => by rw [z, c5.1] at w2; cases w2]
      exact w1
    refine ⟨D, zs, c6.1, _, m5, _, _, (r4.plain pl f6).wipe l1, sx7, hs1, fun ρ7 σ7 q7 r7 w7 => ⟨upd_same, ?_⟩⟩
    rw [c6.back]
    refine ⟨(w7 l1 hl1).trans (wipe_wipe σ3 l1), D, zs, c6.1, ρ7, m5, _, _, r7, q7, fun b m8 H8 q8 e8 => ?_, .zero (c6.2.2.1.tab tab1)⟩
    obtain ⟨o8, b8, c8⟩ := c6.step e8
    have f8 : Fra K TT m4 H4 m8 H8 := f6.trans e8.toFra
    refine ⟨o8, ?_⟩
    cases b with
    | false => exact ⟨m8, zs, bs, c8, by rw [b8]; exact f8, q8⟩
    | true =>
      have q8 : fe ρ7 m8 _ _ := q8
      refine ⟨D, zs, upd_same, ?_⟩
      rw [b8]
      refine ⟨ρ7, m8, _, _, r7.fre e8, q8, fun d9 m9 v9 H9 q9 e9 s9 => ?_, .zero ((c6.2.2.1.trans e8).tab tab1)⟩
      have e9' : Fre K TT m8 (upd (upd H8 D (.lst zs)) D (OwnO zs D)) m9 H9 := by rw [b8]; exact e9
      obtain ⟨o9, b9, c9⟩ := c8.step e9'
      have lz : zs.length + 1 ≤ sizeLine := by
        have h1 := c9.2.2.2.1.length
        have h2 := q9.1
        rw [sizeLine_eq]
        omega
      have c10 := c9.push (y := v9) (d := d9) hD lz (by rw [b9]; exact s9)
      refine ⟨o9, zs, upd_same, by omega, m9, zs ++ [v9], bs ++ [d9], c10, ?_, q9.2⟩
      have eq : upd (upd (upd H9 D (.lst zs)) D (.lst (zs ++ [v9]))) D (OwnO (zs ++ [v9]) D) = upd H9 D (OwnO (zs ++ [v9]) D) := by rw [upd_upd, upd_upd]
      rw [eq]
      exact (f8.trans e9.toFra).trans (.own o9 c9.2.2.2.2)
variable {e elt tg iter tg1 iter1 : Expr} {st : Stmt} {pos spos : Pos}
theorem lf_lc2 {ifs ifs1 : List Expr} {scope : Scope} {own : List (Str × Nat)} {l1 : List Nat} {fi fi1 : GDI S} {vs vs1 : List Nat} {g g1 : DG} {tt tt1 : GDT S} {fe : GDE S} (hc : X.calm = true) (hN : X.N.Nodup) (hi : PI X tg iter (LI K TT E fi)) (ok : BlkOk X.N X.env.scope scope own) (hv : ∀ i ∈ l1, i ∈ own.map (·.2))
    (hg : ∀ (s : Shared) (H : Hp) (C : Addr) (cl : List (Str × Addr)) (fp : List Addr), PG (X.blk s H scope (compEnvC scope cl C X.env) fp) tg (LG (S := S) K vs g)) (ht : ∀ (s : Shared) (H : Hp) (C : Addr) (cl : List (Str × Addr)) (fp : List Addr), PTs (X.blk s H scope (compEnvC scope cl C X.env) fp) ifs (LTs K TT E0 tt))
    (hi1 : ∀ (s : Shared) (H : Hp) (C : Addr) (cl : List (Str × Addr)) (fp : List Addr), PI (X.blk s H scope (compEnvC scope cl C X.env) fp) tg1 iter1 (LI K TT E0 fi1))
    (hg1 : ∀ (s : Shared) (H : Hp) (C : Addr) (cl : List (Str × Addr)) (fp : List Addr), PG (X.blk s H scope (compEnvC scope cl C X.env) fp) tg1 (LG (S := S) K vs1 g1)) (ht1 : ∀ (s : Shared) (H : Hp) (C : Addr) (cl : List (Str × Addr)) (fp : List Addr), PTs (X.blk s H scope (compEnvC scope cl C X.env) fp) ifs1 (LTs K TT E0 tt1))
    (he : ∀ (s : Shared) (H : Hp) (C : Addr) (cl : List (Str × Addr)) (fp : List Addr), PE (X.blk s H scope (compEnvC scope cl C X.env) fp) elt (LE K TT E0 fe)) (hl : ∀ i ∈ vs, i ∈ own.map (·.2) := by simp) (hl1 : ∀ i ∈ vs1, i ∈ l1 := by simp) (hs : ∀ x, foldedSetIterable iter X.env x = pure x := by intro _; rfl) (hs1 : ∀ env x, foldedSetIterable iter1 env x = pure x := by intro _ _; rfl) :
    PE X (.ListComp elt [⟨tg, iter, ifs, 0⟩, ⟨tg1, iter1, ifs1, 0⟩] scope pos) (LF K TT E (dLc2 fi (own.map (·.2)) l1 g tt fi1 g1 tt1 fe)) :=
  (pe_lc2 hc hN hi ok hv (fun s H C cl fp => pg_hide (hg s H C cl fp)) (fun s H C cl fp => pts_hide (ht s H C cl fp)) (fun s H C cl fp => pi_hide (hi1 s H C cl fp)) (fun s H C cl fp => pg_hide (hg1 s H C cl fp)) (fun s H C cl fp => pts_hide (ht1 s H C cl fp)) (fun s H C cl fp => pe_hide (he s H C cl fp)) hs hs1).imp fun _ _ _ h => comp2_of (ρ := []) (P := fun _ _ => True) hl hl1 h
theorem st_lc2 {i : Nat} {y : Str} {py : Pos} {ifs ifs1 : List Expr} {scope : Scope} {own : List (Str × Nat)} {l1 : List Nat} {fi fi1 : GDI S} {vs vs1 : List Nat} {g g1 : DG} {tt tt1 : GDT S} {fe : GDE S} (hc : X.calm = true) (hN : X.N.Nodup) (hy : X.N[i]? = some y) (hyl : X.env.scope.names.lookup y = some .local)
    (hsw : swapsWith (.ListComp elt [⟨tg, iter, ifs, 0⟩, ⟨tg1, iter1, ifs1, 0⟩] scope pos) (some (.Name y py)) spos.line X.env = pure true) (hi : PI X tg iter (LI K TT E fi)) (ok : BlkOk X.N X.env.scope scope own) (hv : ∀ i ∈ l1, i ∈ own.map (·.2))
    (hg : ∀ (s : Shared) (H : Hp) (C : Addr) (cl : List (Str × Addr)) (fp : List Addr), PG (X.blk s H scope (compEnvC scope cl C X.env) fp) tg (LG (S := S) K vs g)) (ht : ∀ (s : Shared) (H : Hp) (C : Addr) (cl : List (Str × Addr)) (fp : List Addr), PTs (X.blk s H scope (compEnvC scope cl C X.env) fp) ifs (LTs K TT E0 tt))
    (hi1 : ∀ (s : Shared) (H : Hp) (C : Addr) (cl : List (Str × Addr)) (fp : List Addr), PI (X.blk s H scope (compEnvC scope cl C X.env) fp) tg1 iter1 (LI K TT E0 fi1))
    (hg1 : ∀ (s : Shared) (H : Hp) (C : Addr) (cl : List (Str × Addr)) (fp : List Addr), PG (X.blk s H scope (compEnvC scope cl C X.env) fp) tg1 (LG (S := S) K vs1 g1)) (ht1 : ∀ (s : Shared) (H : Hp) (C : Addr) (cl : List (Str × Addr)) (fp : List Addr), PTs (X.blk s H scope (compEnvC scope cl C X.env) fp) ifs1 (LTs K TT E0 tt1))
    (he : ∀ (s : Shared) (H : Hp) (C : Addr) (cl : List (Str × Addr)) (fp : List Addr), PE (X.blk s H scope (compEnvC scope cl C X.env) fp) elt (LE K TT E0 fe)) (hl : ∀ i ∈ vs, i ∈ own.map (·.2) := by simp) (hl1 : ∀ i ∈ vs1, i ∈ l1 := by simp) (hs : ∀ x, foldedSetIterable iter X.env x = pure x := by intro _; rfl) (hs1 : ∀ env x, foldedSetIterable iter1 env x = pure x := by intro _ _; rfl) :
    PS X (.Assign [.Name y py] (.ListComp elt [⟨tg, iter, ifs, 0⟩, ⟨tg1, iter1, ifs1, 0⟩] scope pos) spos) (tAsg (LF K TT E (dLc2 fi (own.map (·.2)) l1 g tt fi1 g1 tt1 fe)) (gName i)) :=
  (ps_setLc2 hc hN hy hyl hsw hi ok hv (fun s H C cl fp => pg_hide (hg s H C cl fp)) (fun s H C cl fp => pts_hide (ht s H C cl fp)) (fun s H C cl fp => pi_hide (hi1 s H C cl fp)) (fun s H C cl fp => pg_hide (hg1 s H C cl fp)) (fun s H C cl fp => pts_hide (ht1 s H C cl fp)) (fun s H C cl fp => pe_hide (he s H C cl fp)) hs hs1).imp fun D σ H h => by
    have h : LF K TT E _ σ H (fun x H1 => gName i x σ H1 D.nx) := h
    exact comp2_of (ρ := []) (P := fun _ _ => True) hl hl1 h
end
/-! ### properties that give a field -/
structure Prp (K : PySem.W.Frag) (C : Addr) (nm fld qual : Str) (st : Stmt) : Prop where
  ex : ∃ (p g : Addr) (fd : FuncData), PropOf K C nm p g ∧ L2.Fun K nm qual st g fd ∧ NoAttr K C fld
section
variable {X : Cx} {TT : List (Addr × Str)} {E : XK} {C : Addr} {nm fld qual : Str} {st : Stmt} {e : Expr} {f : GDE S} {pos : Pos} {j : Nat}
theorem de_prp (W : Prp X.K C nm fld qual st) (cl : Cls X.K C) (hr : Room j X.A) (S : FnScope ["self"] ["self"] (defScope st)) (hb : ∃ p1 p2 p3, defBody st = [.Return (some (.Attribute (.Name "self" p1) fld p2)) p3])
    (hbi : ∀ (kV doc pm : Value) (an : Option Addr) (cdv ct : Value) (us : List Value), us.length = 1 → bindArgs (PySem.W.fnOf nm qual (defArgs st) (defBody st) (defScope st) .none kV doc pm an cdv ct) ⟨us, []⟩ = pure ((["self"] : List Str).zip us)) (he : PE X e (LE X.K TT E f)) (hj : 2 ≤ j := by first | decide | omega) (hab : attributeBase e nm X.env (eval e X.env) = eval e X.env := by rfl) : PE X (.Attribute e nm pos) (LE X.K TT E (dUn (gFld C fld) f)) := by
  obtain ⟨p, g, fd, hp, F, n⟩ := W.ex
  obtain ⟨p1, p2, p3, hb⟩ := hb
  obtain ⟨oc, od, kV, doc, pm, an, cdv, ct, osl, e1, lk, hcd⟩ := id F.ex
  subst e1
  have G : FnOk X.prog X.w X.K X.mg X.base (L2.CX X.prog X.w) 1 g _ ["self"] (getSp C fld) := fn_getter lk hcd S rfl hb cl n
  refine (pe_prop (pos := pos) (E := E0) he cl hp G (hr.mono hj) (F.binds hbi) .nil (fun _ _ _ _ _ _ _ h => (passL (X := X.nox)) _ _ _ _ _ _ (by assumption) h) hab).imp fun σ H Q ⟨ρ, n, P, R, r, q, k, x⟩ => ⟨ρ, n, _, R, r, q, fun d m v H1 z e s => ?_, x⟩
  unfold gFld at z
  split at z
  · obtain ⟨rfl, z⟩ := z
    obtain ⟨d', hd, z⟩ := optD_of z
    cases s with
    | obj h1 h2 h3 =>
      obtain ⟨v, hv, sv⟩ := lookup_sees h3 hd
      exact ⟨_, _, _, rfl, h1, _, _, _, v, rfl, h1, hv, k _ m _ H1 z e sv⟩
  · exact z.elim
end
end Aim

namespace Aim
open PySem PySem.Spec PyProof.Rows L2
open LamX (TabB Tabs CodeO)
open Stt (cnt sto)
variable {S : Type} [Stt S]
/-! ### a def under another name -/
structure HasA (K : PySem.W.Frag) (mg : Str → Option Value) (y x : Str) (st : Stmt) : Prop where
  ex : ∃ (f : Addr) (fd : FuncData), L2.Fun K x x st f fd ∧ mg y = some (.ref f)
theorem hasA_mk {K : PySem.W.Frag} {mg : Str → Option Value} {h : Heap} (X : K.In h) (G : h.Ns mainGlobals mg) {y x : Str} {st : Stmt} {f : Addr} {oc kV doc pm cd ct : Value} {od an : Option Addr} {osl : Array (Option Value)} (a : PySem.W.nsIn K mainGlobals y = some (some (.ref f)))
    (l : K.lookup f = some ⟨oc, od, .func (PySem.W.fnOf x x (defArgs st) (defBody st) (defScope st) .none kV doc pm an cd ct), osl⟩) (c : PySem.W.codeIn K cd x = true) (k : PySem.W.keepIn K (.ref f) = true) : HasA K mg y x st :=
  ⟨f, _, fun_mk (st := st) l c k, PySem.W.mg_of X G a⟩
section
variable {P : Program} {w : World} {K : PySem.W.Frag} {mg : Str → Option Value} {base : Heap} {TT : List (Addr × Str)} {G : Bool} {x y : Str} {st : Stmt} {N ps : List Str} {k : Nat} {sp : GDSp S}
theorem dat_okA (F : HasA K mg y x st) (hb : ∀ f fd, L2.Fun K x x st f fd → L2.Binds K fd ps []) (S : FnScope N ps (defScope st))
    (body : ∀ (f : Addr) (cdv : Value) (A : Around) (outer : List Env) (s : Shared) (H : Hp) (E : XK), Room k (A.deeper (envOfC x (defScope st) s.heap.objs.size f cdv)) → (G = true → A.guards = some []) →
      ∃ g, PSs (cxOf (L2.CX P w) P w K mg base N x (defScope st) f cdv A outer s H E).nox (defBody st) (LS K TT E0 g) ∧ ∀ ds n PP R, sp ds n PP R → ds.length = ps.length ∧ g { nx := fun _ m => PP .non m, rt := PP, ex := R0 } (dstart N ds) n)
    (hl : ∀ ds n PP R, sp ds n PP R → ds.length = ps.length) : Df P w K mg base G (k + 1) y (LSp K TT sp) := by
  obtain ⟨f, fd, F, hm⟩ := F.ex
  have hb := hb f fd F
  have hkp := F.kp
  obtain ⟨oc, od, kV, doc, pm, an, cdv, ct, osl, rfl, lk, hcd⟩ := F.ex
  have len : ∀ vs H Q E, LSp K TT sp vs H Q E → vs.length = ps.length := fun vs H Q E h => by
    obtain ⟨ds, n, PP, R, s, h, _⟩ := h
    rw [s.length]
    exact hl _ _ _ _ h
  refine ⟨f, _, ps, ⟨len, fun {A fr s H args us vs Q E} hr hg e0 b r q => LamX.run_ofS lk hcd S hr e0 b r (len _ _ _ _ q) fun hr' => ?_⟩, hm, hkp, hb⟩
  obtain ⟨g, hp, z⟩ := body f cdv _ _ _ _ _ hr' hg
  obtain ⟨ds, n, PP, R, se, h, kQ, kE, kS⟩ := q
  exact ⟨_, hp.nox, ends_of se (z ds n PP R h).2 kQ (.zero kE.tab) kS⟩
/-! ### a class by its __init__ -/
structure MkH (K : PySem.W.Frag) (C : Addr) (qual : Str) (st : Stmt) : Prop where
  ex : ∃ (f : Addr) (fd : FuncData), L2.Fun K "__init__" qual st f fd ∧ Mk K C f
theorem ini_ok {qual : Str} {C : Addr} (F : MkH K C qual st) (hb : ∀ (kV doc pm : Value) (an : Option Addr) (cdv ct : Value) (us : List Value), us.length = ps.length → bindArgs (PySem.W.fnOf "__init__" qual (defArgs st) (defBody st) (defScope st) .none kV doc pm an cdv ct) ⟨us, []⟩ = pure (ps.zip us)) (S : FnScope N ps (defScope st)) (hN : 0 < N.length)
    (body : ∀ (f : Addr) (cdv : Value) (A : Around) (outer : List Env) (s : Shared) (H : Hp) (E : XK), Room k (A.deeper (envOfC qual (defScope st) s.heap.objs.size f cdv)) →
      ∃ g, PSs (cxOf (L2.CX P w) P w K mg base N qual (defScope st) f cdv A outer s H E) (defBody st) (LS K TT E g) ∧ ∀ x ds n PP R, sp ds n PP R → g { nx := fun ρ' m => insOf (slAt ρ' 0) fun a C' ks es => a = x ∧ C' = C ∧ PP (.obj C ks es) m, rt := fun _ _ => False, ex := R } ((dstart N (.non :: ds)).set 0 (.ins x C [] [])) n)
    (hl : ∀ ds n PP R, sp ds n PP R → ds.length + 1 = ps.length) : DfI P w K mg base TT (k + 1) C sp := by
  obtain ⟨f, fd, F, M⟩ := F.ex
  have hbb := F.binds hb
  obtain ⟨oc, od, kV, doc, pm, an, cdv, ct, osl, rfl, lk, hcd⟩ := F.ex
  exact ⟨f, _, ps, rn_init lk hcd S hN (fun A outer s H E hr => body f cdv A outer s H E hr) hl, M, hbb⟩
end
/-! ### an own list asked in a test -/
section
variable {K : PySem.W.Frag} {TT : List (Addr × Str)} {E : XK} {X : Cx} {e : Expr} {n m : Nat} {H H1 : Hp} {ρ : List Sl} {σ : L2.St} {i : Nat} {a : Addr} {xs : List V} {ds : List Dat}
theorem bor_rel (rl : Rel K ρ n σ H) (hρ : ρ[i]? = some (.own ds)) (hσ : σ[i]? = some (some (.ref a))) (l : xs.length ≤ sizeLine) (hH : H a = some (OwnO xs a)) (sx : SeesL K n H xs ds) : Rel K (ρ.set i (.val (.lst ds))) n σ (upd H a (.lst xs)) := by
  have fm : Fra K [] n H n (upd H a (.lst xs)) := .melt l hH rfl
  have me : Owns ρ σ i a := ⟨⟨ds, hρ⟩, hσ⟩
  have z := (Rel.drop (i := i) (o := none) rl).mono fm (k2 := fun i C x dx ks ds zs _ hx hd s1 s2 => ⟨⟨not_makes hH l hd, not_hid hH hx⟩, s1, s2⟩) fun j b zs ow lz eb sb => ⟨by
    rw [upd_ne]
    intro w
    subst w
    obtain ⟨⟨ds', e1⟩, e2⟩ := ow
    by_cases hij : i = j
    · subst hij
      rw [List.getElem?_set] at e1
      split at e1
      · split at e1 <;> cases e1
      · rename_i w
        exact w rfl
    · rw [List.getElem?_set_ne hij] at e1 e2
      exact rl.ap i j b b hij me ⟨⟨ds', e1⟩, e2⟩ rfl, sb⟩
  have w := z.put (i := i) (Sees.lstOf (K := K) (n := n) (H := upd H a (.lst xs)) upd_same l (sx.mono fm))
  simp only [List.set_set] at w
  rw [(rl.here hρ hσ).2] at w
  exact w
theorem bor_fre (l : xs.length ≤ sizeLine) (hH : H a = some (OwnO xs a)) (e1 : Fre K TT n (upd H a (.lst xs)) m H1) : H1 a = some (.lst xs) ∧ Fre K TT n H m (upd H1 a (OwnO xs a)) := by
  have fm : Fra K TT n H n (upd H a (.lst xs)) := .melt l hH rfl
  have ha : H1 a = some (.lst xs) := e1.keep _ _ upd_same (perm_ext (fun _ z => nomatch z) fun _ z => nomatch z)
  refine ⟨ha, ⟨⟨⟨e1.le, fun b o eb p => ?_, fun b j lj eb => ?_⟩, fun t => ?_, fun _ => .nat⟩, fun b ys eb _ => ⟨?_, rfl⟩⟩⟩
  · have hb := own_perm l hH eb p
    rw [upd_ne hb]
    exact e1.keep b o (by rw [upd_ne hb]; exact eb) p
  · have hb : b ≠ a := fun z => by
      subst z
      rw [hH] at eb
      exact own_pot (Option.some.inj eb)
    obtain ⟨i, h1, h2⟩ := e1.pot b j lj (by rw [upd_ne hb]; exact eb)
    exact ⟨i, h1, by rw [upd_ne hb]; exact h2⟩
  · refine tabs_map2 (e1.tab (fm.tab t)) fun b o w kind => ?_
    rw [upd_ne fun z => ?_]
    · exact w
    · subst z
      rw [ha] at w
      cases w
      rcases kind with ⟨ps, z⟩ | ⟨q, z⟩
      · cases z
      · unfold CodeO at z
        cases z
  · by_cases hb : b = a
    · subst hb
      rw [hH] at eb
      rw [upd_same]
      exact eb
    · rw [upd_ne hb]
      exact (e1.own b ys (by rw [upd_ne hb]; exact eb) rfl).1
def dBorT (i : Nat) (f : DT) : DT := fun ρ n P _ => ownOf (slAt ρ i) fun ds => f (ρ.set i (.val (.lst ds))) n P R0
theorem dt_bor {f : DT} (h : PT X e (LTs K TT E f)) : PT X e (LTs K TT E (dBorT i f)) := ⟨fun pins s σ H Q I ⟨ρ, n, P, R, rl, q, k, x⟩ => by
  obtain ⟨ds, hρ, q⟩ := ownOf_of q
  obtain ⟨a, xs, hσ, l, hH, hs, sx⟩ := rl.owned hρ
  have fm : Fra K TT n H n (upd H a (.lst xs)) := .melt l hH rfl
  exact thn (h.run pins s σ (upd H a (.lst xs)) (fun v H1 => H1 a = some (.lst xs) ∧ Q v (upd H1 a (OwnO xs a))) (of_own I hH) ⟨_, n, _, R0, bor_rel rl hρ hσ l hH sx, q, fun d m H1 q1 e1 => ⟨(bor_fre l hH e1).1, k d m _ q1 (bor_fre l hH e1).2⟩, .zero (fm.tab x.tab)⟩) fun u s1 ⟨H1, J, ha, q1⟩ => ⟨_, to_own J ha, q1⟩⟩
end
end Aim

namespace Aim
open PySem PySem.Spec PyProof.Rows L2
open LamX (TabB)
def top (i : Nat) : Stmt := PySem.Challenge.pw_aimedpresses_k09_ticks_of_persons.main.body.getD i (.Pass ⟨0, 0, 0, 0⟩)
section
variable {P : Program} {w : World} {K : PySem.W.Frag} {mg : Str → Option Value} {base : Heap} {TT : List (Addr × Str)}
/-! ### draws -/
theorem at_four {a b c d i m : Int} (i0 : 0 ≤ i) (i1 : i < 4) (ha : 0 < a ∧ a ≤ m) (hb : 0 < b ∧ b ≤ m) (hc : 0 < c ∧ c ≤ m) (hd : 0 < d ∧ d ≤ m) : ∃ z : Int, atI [Dat.int a, Dat.int b, Dat.int c, Dat.int d] i = some (.int z) ∧ 0 < z ∧ z ≤ m := by
  have h : i = 0 ∨ i = 1 ∨ i = 2 ∨ i = 3 := by omega
  rcases h with h | h | h | h <;> subst h
  · exact ⟨a, rfl, ha⟩
  · exact ⟨b, rfl, hb⟩
  · exact ⟨c, rfl, hc⟩
  · exact ⟨d, rfl, hd⟩
theorem log2_62 {z : Int} (z0 : 0 < z) (z1 : z < 2 ^ 300) : z.natAbs.log2 < 9000 := by
  have h : z.natAbs < 2 ^ 300 := by omega
  exact Nat.lt_trans (Nat.log2_lt (by omega) |>.mpr h) (by decide)
theorem mulW_of {i j : Int} (hi : i.natAbs < 2 ^ 200) (hj : j.natAbs < 2 ^ 200) : CMulA i j := .inr (wide_mul hi hj (by decide) (by decide) (by decide))
/-- n draws are made: one number from 0 below z -/
def spTake : DSp := fun ds n Q _ => ∃ z : Int, ds = [.pot, .int z] ∧ n < 1000000 ∧ 0 < z ∧ z < 2 ^ 300 ∧ ∀ r : Int, 0 ≤ r → r < z → Q (.int r) (n + 1)
theorem sc__law_take : FnScope ["_law_pot_here", "_law_size", "_law_turn", "_law_prime", "_law_mixed", "_law_spread", "_law_digit"] ["_law_pot_here", "_law_size"] (defScope (top 21)) := ⟨rfl, rfl, rfl, by decide +kernel, rfl, by decide +kernel, by decide +kernel⟩
theorem ok_take {G : Bool} (F : Has K mg "_law_take" (top 21)) (T : Blt mg) : Df P w K mg base G 1 "_law_take" (LSp K TT spTake) := by
  refine dat_ok F (fun f fd F => F.binds (fun _ _ _ _ _ _ us hl => match us, hl with | [_, _], _ => rfl)) sc__law_take (fun f cdv A outer s H E hr hG => ⟨_, (dss_cons (ds_if (dt_cmp op_gt (od_IB _) (de_ixPot (pe_ix ix_pot (de_var (pv 0)) de_int (fun _ _ => rfl))) de_int (nomark _)) (dss_cons (ds_set (i := 6) sc__law_take.nd rfl (Or.inl rfl) (de_op op_mod (od_IC _) (de_cb cd_int (pe_callTy call_intA rfl T.n_int boot_int (da_cons (de_ixPot (pe_ix ix_pot (de_var (pv 0)) de_int (fun _ _ => rfl))) da_nil))) (de_var (pv 1))))
      (dss_cons (ds_setPot (ps_asg (de_op op_fdivW (od_IC _) (de_cb cd_int (pe_callTy call_intA rfl T.n_int boot_int (da_cons (de_ixPot (pe_ix ix_pot (de_var (pv 0)) de_int (fun _ _ => rfl))) da_nil))) (de_var (pv 1))) (pg_sub (de_var (pv 0)) de_int set_pot)))
      (dss_one (ds_ret (de_var (pv 6)))))) dss_nil)
      (dss_cons (ds_set (i := 2) sc__law_take.nd rfl (Or.inl rfl) (de_op op_addAny od_add (de_ixPot (pe_ix ix_pot (de_var (pv 0)) de_int (fun _ _ => rfl))) de_int))
      (dss_cons (ds_setPot (ps_asg (de_var (pv 2)) (pg_sub (de_var (pv 0)) de_int set_pot)))
      (dss_cons (ds_set (i := 3) sc__law_take.nd rfl (Or.inl rfl) (de_ix ix_seq od_ix (de_lst (da_cons de_int (da_cons de_int (da_cons de_int (da_cons de_int da_nil))))) (de_op op_mod (od_IC _) (de_cb cd_int (pe_callTy call_intA rfl T.n_int boot_int (da_cons (de_var (pv 2)) da_nil))) de_int) (fun _ _ => rfl)))
      (dss_cons (ds_set (i := 4) sc__law_take.nd rfl (Or.inl rfl) (de_op op_mod (od_IC _) (de_cb cd_int (pe_callTy call_intA rfl T.n_int boot_int (da_cons (de_op op_powW (od_IC _) (de_cb cd_int (pe_callTy call_intA rfl T.n_int boot_int (da_cons (de_op op_addAny od_add (de_op op_addAny od_add (de_ixPot (pe_ix ix_pot (de_var (pv 0)) de_int (fun _ _ => rfl))) (de_op op_mulA od_mulA (de_op op_mulA od_mulA de_int (de_var (pv 2))) (de_var (pv 2)))) (de_op op_mulA od_mulA de_int (de_var (pv 2)))) da_nil))) de_int) da_nil))) (de_var (pv 3))))
      (dss_cons (ds_set (i := 5) sc__law_take.nd rfl (Or.inl rfl) (de_op op_mod (od_IC _) (de_cb cd_int (pe_callTy call_intA rfl T.n_int boot_int (da_cons (de_op op_mulA od_mulA (de_var (pv 4)) (de_op op_addAny od_add (de_op op_mod (od_IC _) (de_cb cd_int (pe_callTy call_intA rfl T.n_int boot_int (da_cons (de_var (pv 4)) da_nil))) de_int) (de_op op_mulA od_mulA de_int (de_var (pv 2))))) da_nil))) de_int))
      (dss_one (ds_ret (de_op op_mod (od_IC _) (de_cb cd_int (pe_callTy call_intA rfl T.n_int boot_int (da_cons (de_op op_fdivW (od_IC _) (de_var (pv 5)) de_int) da_nil))) (de_var (pv 1))))))))))), fun ds n PP R h => ?_⟩) (fun ds n PP R h => ?_)
  · obtain ⟨z, rfl, hn, z0, z1, k⟩ := h
    refine ⟨rfl, ?_⟩
    refine Or.inl ⟨rfl, fun d d0 => ?_⟩
    refine ite2 (fun c => ?_) (fun c => ?_)
    · refine Or.inl ⟨rfl, fun d2 e2 => ?_⟩
      refine ⟨z0, ?_⟩
      refine Or.inl ⟨rfl, fun d3 e3 => ?_⟩
      refine ⟨⟨z0, log2_62 z0 z1⟩, ?_⟩
      refine Or.inl ⟨rfl, Int.ediv_nonneg e3 (Int.le_of_lt z0), ?_⟩
      exact k (d2 % z) (Int.emod_nonneg _ (by omega)) (Int.emod_lt_of_pos _ z0)
    · refine Or.inr (Or.inr ⟨rfl, fun t t0 t1 => ?_⟩)
      have t1 : t ≤ ((n : Nat) : Int) := t1
      refine Or.inr ⟨rfl, by omega, (by show t + 1 ≤ ((n : Nat) : Int) + 1; omega), ?_⟩
      obtain ⟨pr, hpr, pr0, pr1⟩ := at_four (i := (t + 1) % 4) (a := 2305843009213693951) (b := 2305843009213693921) (c := 2305843009213693907) (d := 67280421310721) (Int.emod_nonneg _ (by decide)) (Int.emod_lt_of_pos _ (by decide)) (m := 2 ^ 61) (by decide) (by decide) (by decide) (by decide)
      refine ⟨by show 4 ≤ sizeLine; decide, ?_⟩
      refine ⟨(by decide : (0 : Int) < 4), ?_⟩
      show optD (atI _ _) _
      rw [hpr]
      refine Or.inr (Or.inl ⟨rfl, fun m m0 m1 => ?_⟩)
      have tt : (t + 1) * (t + 1) ≤ 1000001 * 1000001 := Int.mul_le_mul (by omega) (by omega) (by omega) (by omega)
      have tt0 : 0 ≤ (t + 1) * (t + 1) := Int.mul_nonneg (by omega) (by omega)
      refine ⟨mulW_of (by decide) (by omega), ?_⟩
      have e : 7368787 * (t + 1) * (t + 1) = 7368787 * ((t + 1) * (t + 1)) := Int.mul_assoc _ _ _
      refine ⟨mulW_of (by omega) (by omega), ?_⟩
      refine ⟨mulW_of (by decide) (by omega), ?_⟩
      refine ⟨⟨by decide, ?_⟩, ?_⟩
      · have b : Builtin.Int.intBits (m + 7368787 * (t + 1) * (t + 1) + 104729 * (t + 1)) ≤ 70 := by
          refine PySem.intBits_le_iff.mpr ?_
          rw [e]
          generalize (t + 1) * (t + 1) = q at tt tt0
          omega
        show (Builtin.Int.intBits (m + 7368787 * (t + 1) * (t + 1) + 104729 * (t + 1)) : Int) * 3 ≤ 2 ^ 27
        omega
      refine ⟨(by omega : (0 : Int) < pr), ?_⟩
      generalize hmx : (m + 7368787 * (t + 1) * (t + 1) + 104729 * (t + 1)) ^ Int.toNat 3 % pr = mx
      have mx0 : 0 ≤ mx := by rw [← hmx]; exact Int.emod_nonneg _ (by omega)
      have mx1 : mx < 2 ^ 61 := by rw [← hmx]; exact Int.lt_of_lt_of_le (Int.emod_lt_of_pos _ (by omega)) pr1
      refine ⟨(by decide : (0 : Int) < 10009), ?_⟩
      refine ⟨mulW_of (by decide) (by omega), ?_⟩
      refine ⟨mulW_of (by omega) (by omega), ?_⟩
      refine ⟨(by decide : (0 : Int) < 2305843009213693669), ?_⟩
      refine ⟨⟨by decide, by decide⟩, ?_⟩
      refine ⟨z0, ?_⟩
      exact k _ (Int.emod_nonneg _ (by omega)) (Int.emod_lt_of_pos _ z0)
  · obtain ⟨z, rfl, _⟩ := h
    rfl
/-! ### of, cells, pot -/
def spOf : DSp := fun ds n Q _ => ∃ xs : List Dat, (ds = [.pot, .lst xs] ∨ ds = [.pot, .tup xs]) ∧ n < 1000000 ∧ 0 < xs.length ∧ xs.length ≤ 1000000 ∧ ∀ v ∈ xs, Q v (n + 1)
theorem atI_of {xs : List Dat} {r : Int} (r0 : 0 ≤ r) (r1 : r < (xs.length : Int)) : ∃ v ∈ xs, atI xs r = some v := by
  obtain ⟨j, e⟩ : ∃ j : Nat, r = (j : Int) := ⟨r.toNat, by omega⟩
  subst e
  have h : j < xs.length := by omega
  refine ⟨xs[j], List.getElem_mem h, ?_⟩
  unfold atI ixN
  rw [if_pos (by omega), if_pos (by omega)]
  show xs[(j : Int).toNat]? = _
  rw [Int.toNat_natCast, List.getElem?_eq_getElem h]
theorem sc__law_of : FnScope ["_law_pot_here", "_law_options"] ["_law_pot_here", "_law_options"] (defScope (top 22)) := ⟨rfl, rfl, rfl, by decide +kernel, rfl, by decide +kernel, by decide +kernel⟩
theorem ok_of {G : Bool} (F : Has K mg "_law_of" (top 22)) (T : Blt mg) (D__law_take : Df P w K mg base false 1 "_law_take" (LSp K TT spTake)) : Df P w K mg base G 2 "_law_of" (LSp K TT spOf) := by
  refine dat_ok F (fun f fd F => F.binds (fun _ _ _ _ _ _ us hl => match us, hl with | [_, _], _ => rfl)) sc__law_of (fun f cdv A outer s H E hr hG => ⟨_, (dss_one (ds_ret (de_ix ix_seq od_ix (de_var (pv 1)) (de_call D__law_take hr (by first | decide | omega) (by first | exact hG | (intro z; cases z)) rfl passL (da_cons (de_var (pv 0)) (da_cons (de_cb cd_len (pe_callB call_len rfl T.n_len boot_len (da_cons (de_var (pv 1)) da_nil))) da_nil))) (fun _ _ => rfl)))), fun ds n PP R h => ?_⟩) (fun ds n PP R h => ?_)
  · obtain ⟨xs, hd, hn, h0, h1, k⟩ := h
    rcases hd with rfl | rfl
    · refine ⟨rfl, ?_⟩
      refine ⟨(xs.length : Nat), rfl, hn, by omega, by omega, fun r r0 r1 => ?_⟩
      obtain ⟨v, hv, ha⟩ := atI_of r0 r1
      show optD (atI xs r) _
      rw [ha]
      exact k v hv
    · refine ⟨rfl, ?_⟩
      refine ⟨(xs.length : Nat), rfl, hn, by omega, by omega, fun r r0 r1 => ?_⟩
      obtain ⟨v, hv, ha⟩ := atI_of r0 r1
      show optD (atI xs r) _
      rw [ha]
      exact k v hv
  · obtain ⟨xs, hd, _⟩ := h
    rcases hd with rfl | rfl <;> rfl
/-- the places of the script: at most m numbers -/
def spCells : DSp := fun ds n Q _ => ∃ (ns : List Int) (m : Int), ds = [.scr ns, .int m] ∧ ns.length ≤ 63 ∧ m ≤ 60 ∧ ∀ k : Nat, k ≤ 60 → (k : Int) ≤ m ∨ k ≤ 1 → Q (.lst (numL 0 k)) n
theorem max_min (m l : Int) (h : l ≤ 63) (hm : m ≤ 60) : ∃ c : Int, (fun i j : Int => if j > i then j else i) 1 ((fun i j : Int => if j < i then j else i) m l) = c ∧ 1 ≤ c ∧ c ≤ 60 ∧ (c ≤ m ∨ c ≤ 1) := by
  refine ⟨_, rfl, ?_⟩
  show 1 ≤ (if (if l < m then l else m) > 1 then (if l < m then l else m) else 1) ∧ _ ∧ _
  dsimp only
  split <;> split <;> omega
theorem sc__law_cells : FnScope ["_law_script", "_law_most"] ["_law_script", "_law_most"] (defScope (top 23)) := ⟨rfl, rfl, rfl, by decide +kernel, rfl, by decide +kernel, by decide +kernel⟩
theorem ok_cells {G : Bool} (F : Has K mg "_law_cells" (top 23)) (T : Blt mg) : Df P w K mg base G 1 "_law_cells" (LSp K TT spCells) := by
  refine dat_ok F (fun f fd F => F.binds (fun _ _ _ _ _ _ us hl => match us, hl with | [_, _], _ => rfl)) sc__law_cells (fun f cdv A outer s H E hr hG => ⟨_, (dss_one (ds_ret (de_fr (L2.PE.imp (pe_listRg rfl rfl T.n_list (prg_1 rfl T.n_range (de_cb (cd_2I _) (pe_callB (call_max2 rfl) rfl T.n_max boot_max (da_cons de_int (da_cons (de_cb (cd_2I _) (pe_callB (call_min2 rfl) rfl T.n_min boot_min (da_cons (de_var (pv 1)) (da_cons (de_cb cd_len (pe_callB call_len rfl T.n_len boot_len (da_cons (de_var (pv 0)) da_nil))) da_nil)))) da_nil)))))) fun _ _ _ h => lf_rg1 h)))), fun ds n PP R h => ?_⟩) (fun ds n PP R h => ?_)
  · obtain ⟨ns, m, rfl, hn, hm, k⟩ := h
    refine ⟨rfl, ?_⟩
    obtain ⟨c, hc, c1, c2, c3⟩ := max_min m ns.length (by omega) hm
    show (-1000000 ≤ (fun i j : Int => if j > i then j else i) 1 ((fun i j : Int => if j < i then j else i) m (ns.length : Nat)) ∧ _) ∧ _
    rw [hc]
    refine ⟨by omega, ?_⟩
    exact k c.toNat (by omega) (by omega)
  · obtain ⟨ns, m, rfl, _⟩ := h
    rfl
/-- the pot of a place -/
def spPot : DSp := fun ds n Q _ => ∃ (ns : List Int) (j : Int), ds = [.scr ns, .int j] ∧ 0 ≤ j ∧ j < 63 ∧ (∀ z ∈ ns, Builtin.Int.intBits z ≤ 1048576) ∧ ns.length ≤ 63 ∧ Q .pot n
theorem sc__law_pot : FnScope ["_law_script", "_law_place", "_law_cell", "_law_digits"] ["_law_script", "_law_place"] (defScope (top 20)) := ⟨rfl, rfl, rfl, by decide +kernel, rfl, by decide +kernel, by decide +kernel⟩
theorem ok_pot {G : Bool} (F : Has K mg "_law_pot" (top 20)) (T : Blt mg) : Df P w K mg base G 1 "_law_pot" (LSp K TT spPot) := by
  refine dat_ok F (fun f fd F => F.binds (fun _ _ _ _ _ _ us hl => match us, hl with | [_, _], _ => rfl)) sc__law_pot (fun f cdv A outer s H E hr hG => ⟨_, (dss_cut (ds_set (i := 2) sc__law_pot.nd rfl (Or.inl rfl) (de_if (dt_cmp op_lt (od_IB _) (de_var (pv 1)) (de_cb cd_len (pe_callB call_len rfl T.n_len boot_len (da_cons (de_var (pv 0)) da_nil))) (nomark _)) (de_ix ix_seq od_ix (de_var (pv 0)) (de_var (pv 1)) (fun _ _ => rfl)) de_int))
      (dss_cut (ds_set (i := 3) sc__law_pot.nd rfl (Or.inl rfl) (de_op op_mulA od_mulA (de_op op_mod (od_IC _) (de_cb cd_int (pe_callTy call_intA rfl T.n_int boot_int (da_cons (de_cb cd_abs (pe_callB call_abs rfl T.n_abs boot_abs (da_cons (de_var (pv 2)) da_nil))) da_nil))) (de_op op_powW (od_IC _) (de_op op_powW (od_IC _) de_int de_int) de_int)) (de_cb cd_int (pe_callTy call_intA rfl T.n_int boot_int (da_cons (de_cmp op_ge (od_IB _) (de_cb cd_abs (pe_callB call_abs rfl T.n_abs boot_abs (da_cons (de_var (pv 2)) da_nil))) (de_op op_powW (od_IC _) de_int de_int) (nomark _)) da_nil)))))
      (dss_one (ds_ret (de_newPot (pe_pot (pe_lst (da_cons (de_var (pv 3)) (da_cons (de_op op_mod (od_IC _) (de_cb cd_int (pe_callTy call_intA rfl T.n_int boot_int (da_cons (de_op op_addAny od_add (de_op op_mulA od_mulA (de_var (pv 2)) de_int) (de_op op_mulA od_mulA de_int (de_op op_powW (od_IC _) (de_op op_addAny od_add (de_var (pv 1)) de_int) de_int))) da_nil))) de_int) (da_cons de_int da_nil)))))))))), fun ds n PP R h => ?_⟩) (fun ds n PP R h => ?_)
  · obtain ⟨ns, j, rfl, j0, j1, hb, hl, k⟩ := h
    refine ⟨rfl, ?_⟩
    refine ⟨fun ρ' m => ∃ c : Int, Builtin.Int.intBits c ≤ 1048576 ∧ ρ' = [.val (.scr ns), .val (.int j), .val (.int c), .no] ∧ m = n, ?_, ?_⟩
    · refine ite2 (fun c => ?_) (fun c => ?_)
      · have hj : j < ns.length := of_decide_eq_true c
        obtain ⟨i, e⟩ : ∃ i : Nat, j = (i : Int) := ⟨j.toNat, by omega⟩
        have hi : i < ns.length := by omega
        have ha : atI ns j = some ns[i] := by
          unfold atI ixN
          rw [if_pos (by omega), if_pos (by omega)]
          show ns[j.toNat]? = _
          rw [show j.toNat = i by omega, List.getElem?_eq_getElem hi]
        show optD (atI ns j) _
        rw [ha]
        exact ⟨_, hb _ (List.getElem_mem hi), rfl, rfl⟩
      · exact ⟨0, by decide, rfl, rfl⟩
    · rintro ρ' m ⟨c, hc, rfl, rfl⟩
      refine ⟨fun ρ' m' => ∃ d : Int, 0 ≤ d ∧ ρ' = [.val (.scr ns), .val (.int j), .val (.int c), .val (.int d)] ∧ m' = m, ?_, ?_⟩
      · refine ⟨⟨by decide, by decide⟩, ⟨by decide, by decide +kernel⟩, (by decide +kernel : (0 : Int) < (10 ^ Int.toNat 60) ^ Int.toNat 5), ⟨by decide, by decide⟩, ?_⟩
        have p1 : (0 : Int) < (10 ^ Int.toNat 60) ^ Int.toNat 5 := by decide +kernel
        have a0 : 0 ≤ (if c < 0 then -c else c) := by split <;> omega
        have m0 : 0 ≤ (if c < 0 then -c else c) % (10 ^ Int.toNat 60) ^ Int.toNat 5 := Int.emod_nonneg _ (Int.ne_of_gt p1)
        have m1 : (if c < 0 then -c else c) % (10 ^ Int.toNat 60) ^ Int.toNat 5 < (10 ^ Int.toNat 60) ^ Int.toNat 5 := Int.emod_lt_of_pos _ p1
        have b0 : ∀ b : Bool, 0 ≤ (if b then (1 : Int) else 0) ∧ (if b then (1 : Int) else 0) ≤ 1 := fun b => by cases b <;> decide
        have hb2 := b0 (decide ((10 : Int) ^ Int.toNat 18 ≤ (if c < 0 then -c else c)))
        refine ⟨?_, ⟨_, Int.mul_nonneg m0 hb2.1, rfl, rfl⟩⟩
        refine .inr <| wide_mul (a := 1200) (b := 10) ?_ ?_ (by decide) (by decide) (by decide)
        · have h2 : (10 ^ Int.toNat 60 : Int) ^ Int.toNat 5 ≤ 2 ^ 1200 := by decide +kernel
          have h3 : (2 : Int) ^ 1200 = ((2 ^ 1200 : Nat) : Int) := by norm_cast
          rw [h3] at h2
          generalize (2 ^ 1200 : Nat) = B at h2 ⊢
          omega
        · generalize (if (decide ((10 : Int) ^ Int.toNat 18 ≤ (if c < 0 then -c else c))) then (1 : Int) else 0) = B at hb2 ⊢
          have : (2 : Nat) ^ 10 = 1024 := by decide
          omega
      · rintro ρ' m' ⟨d, d0, rfl, rfl⟩
        have bj : Builtin.Int.intBits (j + 1) ≤ 70 := PySem.intBits_le_iff.mpr (by omega)
        refine ⟨.inl (.inr ⟨by omega, by omega⟩), ⟨by omega, by omega⟩, .inl (.inl ⟨by omega, by omega⟩), (by decide : (0 : Int) < 2305843009213693921), ⟨?_, k⟩⟩
        have h1 := Int.emod_nonneg (c * 48271 + 1299709 * (j + 1) ^ Int.toNat 2) (show (2305843009213693921 : Int) ≠ 0 by decide)
        have h2 := Int.emod_lt_of_pos (c * 48271 + 1299709 * (j + 1) ^ Int.toNat 2) (show (0 : Int) < 2305843009213693921 by decide)
        exact ⟨d0, by omega, by omega, by omega, by omega⟩
  · obtain ⟨ns, m, rfl, _⟩ := h
    rfl
/-! ### letters, words, names -/
theorem strB_dec {x : Str} (h : (decide (x.length ≤ sizeLine) && x.cps.all (fun c => decide (c < 0x110000))) = true) : StrB x := by
  rw [Bool.and_eq_true] at h
  exact ⟨of_decide_eq_true h.1, h.2⟩
/-- a letter from a to z -/
def isLet (c : Nat) : Prop := 97 ≤ c ∧ c ≤ 122
def abc : Str := "abcdefghijklmnopqrstuvwxyz"
theorem abc_at {i : Int} (h0 : 0 ≤ i) (h1 : i < 26) : atI abc.cps.toList i = some (97 + i.toNat) := by
  obtain ⟨j, e⟩ : ∃ j : Nat, i = (j : Int) := ⟨i.toNat, by omega⟩
  subst e
  have h : ∀ j < 26, atI abc.cps.toList ((j : Nat) : Int) = some (97 + j) := by decide +kernel
  exact h j (by omega)
/-- a name: one to eight letters -/
def isNm (x : Str) : Prop := 1 ≤ x.cps.size ∧ x.cps.size ≤ 8 ∧ ∀ c ∈ x.cps.toList, isLet c
def lineWords : List Str := ["tick", "look", "forget", "down", "up", "announce", "update", "way", "shows", "room", "part", "places", "put", "take", "swap", "push", "yes", "other", "at", "calm", "grace"]
theorem lineWords_nm : ∀ x ∈ lineWords, isNm x := by
  have h : lineWords.all (fun x => decide (1 ≤ x.cps.size) && decide (x.cps.size ≤ 8) && x.cps.toList.all fun c => decide (97 ≤ c) && decide (c ≤ 122)) = true := by decide +kernel
  intro x hx
  have z := List.all_eq_true.mp h x hx
  simp only [Bool.and_eq_true, decide_eq_true_eq, List.all_eq_true] at z
  exact ⟨z.1.1, z.1.2, z.2⟩
end
end Aim

namespace Aim
open PySem PySem.Spec PyProof.Rows L2 RZ
open LamX (TabB)
section
variable {P : Program} {w : World} {K : PySem.W.Frag} {mg : Str → Option Value} {base : Heap} {TT : List (Addr × Str)}
/-! ### the forms -/
def Kd (d : Dat) : Prop := (tyK d).isSome = true
theorem kd_of {d : Dat} (h : Kd d) {Q : String → Prop} (k : ∀ t, tyK d = some t → Q t) : optD (tyK d) Q := by
  obtain ⟨t, e⟩ := Option.isSome_iff_exists.mp h
  rw [e]
  exact k t e
def isInt : Dat → Bool
  | .int _ => true
  | _ => false
theorem isInt_ty {d : Dat} {t : String} (h : tyK d = some t) : (isT "int" t && !isT "bool" t) = isInt d := by
  cases d <;> cases h <;> rfl
theorem isInt_of {d : Dat} (h : isInt d = true) : ∃ i, d = .int i := by
  cases d <;> first | exact ⟨_, rfl⟩ | cases h
def spIsInt : DSp := fun ds n Q _ => ∃ d, ds = [d] ∧ Kd d ∧ Q (.bl (isInt d)) n
theorem sc_is_integer : FnScope ["value"] ["value"] (defScope (top 6)) := ⟨rfl, rfl, rfl, by decide +kernel, rfl, by decide +kernel, by decide +kernel⟩
theorem ok_is_integer {G : Bool} (F : Has K mg "is_integer" (top 6)) (T : Blt mg) : Df P w K mg base G 1 "is_integer" (LSp K TT spIsInt) := by
  refine dat_ok F (fun f fd F => F.binds (fun _ _ _ _ _ _ us hl => match us, hl with | [_], _ => rfl)) sc_is_integer (fun f cdv A outer s H E hr hG => ⟨_, (dss_one (ds_ret (de_and (de_cb (cd_isT (T := "int") (by simp)) (pe_callB call_isi rfl T.n_isinstance boot_isinstance (da_cons (de_var (pv 0)) (da_cons (de_c (pe_bltn (v := .ty "int") rfl T.n_int boot_int rfl) (fun _ _ => .ty _)) da_nil)))) (de_one (de_not (de_cb (cd_isT (T := "bool") (by simp)) (pe_callB call_isi rfl T.n_isinstance boot_isinstance (da_cons (de_var (pv 0)) (da_cons (de_c (pe_bltn (v := .ty "bool") rfl T.n_bool boot_bool rfl) (fun _ _ => .ty _)) da_nil))))))))), fun ds n PP R h => ?_⟩) (fun ds n PP R h => ?_)
  · obtain ⟨d, rfl, hd, k⟩ := h
    refine ⟨rfl, rfl, kd_of hd fun t e => ?_⟩
    rw [← isInt_ty e] at k
    refine ite2 (fun c => ?_) (fun c => ?_)
    · rw [c, Bool.true_and] at k
      exact ⟨rfl, kd_of hd fun t' e' => by
        rw [e] at e'
        cases e'
        exact k⟩
    · rw [Bool.eq_false_iff.mpr c, Bool.false_and] at k
      exact k
  · obtain ⟨d, rfl, _⟩ := h
    rfl
def isFrom (d : Dat) (lo hi : Int) : Bool := match d with
  | .int i => decide (lo ≤ i) && decide (i ≤ hi)
  | _ => false
def spIsFrom : DSp := fun ds n Q _ => ∃ d lo hi, ds = [d, .int lo, .int hi] ∧ Kd d ∧ Q (.bl (isFrom d lo hi)) n
theorem sc_is_from : FnScope ["value", "low", "high"] ["value", "low", "high"] (defScope (top 7)) := ⟨rfl, rfl, rfl, by decide +kernel, rfl, by decide +kernel, by decide +kernel⟩
theorem ok_is_from {G : Bool} (F : Has K mg "is_from" (top 7)) (T : Blt mg) (D_is_integer : Df P w K mg base false 1 "is_integer" (LSp K TT spIsInt)) : Df P w K mg base G 2 "is_from" (LSp K TT spIsFrom) := by
  refine dat_ok F (fun f fd F => F.binds (fun _ _ _ _ _ _ us hl => match us, hl with | [_, _, _], _ => rfl)) sc_is_from (fun f cdv A outer s H E hr hG => ⟨_, (dss_one (ds_ret (de_and (de_call D_is_integer hr (by first | decide | omega) (by first | exact hG | (intro z; cases z)) rfl passL (da_cons (de_var (pv 0)) da_nil)) (de_one (de_chain op_le op_le (od_IB _) (od_IB _) (de_var (pv 1)) (de_var (pv 0)) (de_var (pv 2))))))), fun ds n PP R h => ?_⟩) (fun ds n PP R h => ?_)
  · obtain ⟨d, lo, hi, rfl, hd, k⟩ := h
    refine ⟨rfl, d, rfl, hd, ?_⟩
    cases c : isInt d with
    | true =>
      obtain ⟨i, rfl⟩ := isInt_of c
      refine ite2 (fun c => ?_) (fun c => ?_)
      · have e : isFrom (.int i) lo hi = decide (i ≤ hi) := by
          show (decide (lo ≤ i) && _) = _
          rw [c, Bool.true_and]
        rw [e] at k
        exact k
      · have e : isFrom (.int i) lo hi = false := by
          show (decide (lo ≤ i) && _) = _
          rw [Bool.eq_false_iff.mpr c, Bool.false_and]
        rw [e] at k
        exact k
    | false =>
      have e : isFrom d lo hi = false := by cases d <;> first | rfl | cases c
      rw [e] at k
      exact k
  · obtain ⟨d, lo, hi, rfl, _⟩ := h
    rfl
def isTup (d : Dat) (k : Nat) : Bool := match d with
  | .tup xs => xs.length == k
  | _ => false
theorem isTup_of {d : Dat} {k : Nat} (h : isTup d k = true) : ∃ xs, d = .tup xs ∧ xs.length = k := by
  cases d <;> first | exact ⟨_, rfl, beq_iff_eq.mp h⟩ | cases h
theorem tup_orK {d : Dat} (h : Kd d) : (∃ x, d = .tup x) ∨ ∃ t, tyK d = some t ∧ isT "tuple" t = false := by
  cases d <;> first | exact .inl ⟨_, rfl⟩ | exact .inr ⟨_, rfl, rfl⟩ | cases h
theorem str_orK {d : Dat} (h : Kd d) : (∃ x, d = .str x) ∨ ∃ t, tyK d = some t ∧ isT "str" t = false := by
  cases d <;> first | exact .inl ⟨_, rfl⟩ | exact .inr ⟨_, rfl, rfl⟩ | cases h
/-- what is no tuple is not asked further -/
theorem opt_no {d : Dat} {t : String} {Q : String → Prop} (e : tyK d = some t) (k : Q t) : optD (tyK d) Q := by
  rw [e]
  exact k
theorem cmp_fl {d : Dat} (h : flatK d = true) : cmpOk d := by
  cases d <;> first | exact ⟨rfl, by show PyData.depth _ ≤ 60; simp [py, PyData.depth]⟩ | cases h
theorem eqD_nat (a b : Nat) : eqD (.int (a : Nat)) (.int (b : Nat)) = (a == b) := by
  show ((a : Int) == (b : Int)) = (a == b)
  by_cases h : a = b
  · rw [h, beq_self_eq_true, beq_self_eq_true]
  · rw [beq_eq_false_iff_ne.mpr h, beq_eq_false_iff_ne.mpr (by omega)]
def spIsTup : DSp := fun ds n Q _ => ∃ (d : Dat) (k : Nat), ds = [d, .int k] ∧ Kd d ∧ Q (.bl (isTup d k)) n
/-! ### names -/
def abcL : List Nat := ("abcdefghijklmnopqrstuvwxyz" : Str).cps.toList
def isNameS (x : Str) : Bool := decide (1 ≤ x.cps.size) && decide (x.cps.size ≤ 8) && x.cps.toList.all fun c => decide (c ∈ abcL)
def isNameD : Dat → Bool
  | .str x => isNameS x
  | _ => false
theorem isNameD_of {d : Dat} (h : isNameD d = true) : ∃ x, d = .str x ∧ isNameS x = true := by
  cases d <;> first | exact ⟨_, rfl, h⟩ | cases h
structure CstF (K : PySem.W.Frag) (mg : Str → Option Value) : Prop where
  g_LETTERS : GC K mg "LETTERS" (.str "abcdefghijklmnopqrstuvwxyz")
  g_MOST_LETTERS : GC K mg "MOST_LETTERS" (.int 8)
def spNameD : DSp := fun ds n Q _ => ∃ d : Dat, ds = [d] ∧ Kd d ∧ Q (.bl (isNameD d)) n
/-- each item answers yes or no -/
theorem compI_all {l : List Nat} {tg : DG} {fe : DE} {ρ : List Sl} {Q : Dat → Nat → Prop} {ds : List Dat} {m : Nat} (f : Dat → Bool) (h : ∀ d ∈ ds, ∀ (Q : Dat → Nat → Prop), Q (.bl (f d)) m → tg d (wiped ρ l) fun ρ' => fe ρ' m Q R0) (k : Q (.bl (ds.all f)) m) :
    compI l tg (fun _ n P _ => P true n) fe ρ (fun zs m => bools zs fun bs => Q (.bl (bs.all id)) m) ds m := by
  refine compI_map (fun d => .bl (f d)) h ?_
  have e : (ds.map fun d => Dat.bl (f d)) = (ds.map f).map Dat.bl := by
    rw [List.map_map]
    rfl
  rw [e]
  refine bools_map _ ?_
  rw [List.all_map]
  exact k
theorem compI_bools {l : List Nat} {tg : DG} {fe : DE} {ρ : List Sl} {Pb : List Bool → Nat → Prop} {ds : List Dat} {m : Nat} (f : Dat → Bool) (h : ∀ d ∈ ds, ∀ (Q : Dat → Nat → Prop), Q (.bl (f d)) m → tg d (wiped ρ l) fun ρ' => fe ρ' m Q R0) (k : Pb (ds.map f) m) :
    compI l tg (fun _ n P _ => P true n) fe ρ (fun zs m => bools zs fun bs => Pb bs m) ds m := by
  refine compI_map (fun d => .bl (f d)) h ?_
  have e : (ds.map fun d => Dat.bl (f d)) = (ds.map f).map Dat.bl := by
    rw [List.map_map]
    rfl
  rw [e]
  exact bools_map _ k
def signOk : Dat → Bool
  | .str ⟨⟨[c]⟩⟩ => decide (c ∈ abcL)
  | _ => false
theorem signOk_all (x : Str) : (signs x).all signOk = x.cps.toList.all fun c => decide (c ∈ abcL) := by
  unfold signs
  rw [List.all_map]
  rfl
/-! ### tuples of names -/
/-- the texts among these -/
def textsOf : List Dat → List Str
  | [] => []
  | .str x :: r => x :: textsOf r
  | _ :: r => textsOf r
theorem textsOf_map (xs : List Str) : textsOf (xs.map Dat.str) = xs := by
  induction xs with
  | nil => rfl
  | cons x r ih => exact congrArg (x :: ·) ih
theorem names_map : ∀ {xs : List Dat}, xs.all isNameD = true → xs = (textsOf xs).map Dat.str
  | [], _ => rfl
  | d :: r, h => by
    rw [List.all_cons, Bool.and_eq_true] at h
    obtain ⟨x, rfl, _⟩ := isNameD_of h.1
    exact congrArg (Dat.str x :: ·) (names_map h.2)
def areNames (d : Dat) (lo hi : Int) : Bool := match d with
  | .tup xs => decide (lo ≤ (xs.length : Int)) && decide ((xs.length : Int) ≤ hi) && xs.all isNameD && decide ((textsOf xs).Nodup)
  | _ => false
def KdT (d : Dat) : Prop := Kd d ∧ ∀ xs, d = .tup xs → ∀ x ∈ xs, Kd x
def spAreNames : DSp := fun ds n Q _ => ∃ d lo hi, ds = [d, .int lo, .int hi] ∧ KdT d ∧ hi ≤ 2000 ∧ Q (.bl (areNames d lo hi)) n
theorem set_len {xs : List Str} : eqD (.int ((uniq xs).length : Nat)) (.int (xs.length : Nat)) = decide xs.Nodup := by
  rw [eqD_nat]
  by_cases h : xs.Nodup
  · rw [decide_eq_true h, (uniq_len xs).mpr h, beq_self_eq_true]
  · rw [decide_eq_false h]
    exact beq_eq_false_iff_ne.mpr fun z => h ((uniq_len xs).mp z)
end
end Aim

namespace Aim
open PySem PySem.Spec PyProof.Rows L2
/-! ### operators of one's own classes -/
/-- a method of the class at C under its name, by its promise -/
structure Md (P : Program) (w : World) (K : PySem.W.Frag) (mg : Str → Option Value) (base : Heap) (G : Bool) (k : Nat) (C : Addr) (nm : Str) (sp : Sp) : Prop where
  ex : ∃ (f : Addr) (fd : FuncData) (ps : List Str), Rn P w K mg base G k f fd ps sp ∧ PySem.W.findIn K (.ref C) nm = some (some (.ref f)) ∧ PySem.W.isFn K (.ref f) = true ∧ L2.Binds K fd ps []
section
variable {X : Cx} {pins : List (Addr × Obj)} {σ : L2.St} {H : Hp} {s : Shared} {k j : Nat} {G : Bool} {C : Addr} {nm : Str} {sp : Sp} {E : XK}
theorem inv_fr (I : Inv X pins σ H s) : ∃ m, Fr X.base X.env.locals s.heap m := by
  obtain ⟨m, hn, _⟩ := I.loc
  exact ⟨m, hn, I.bk, Nat.le_trans I.ok.bsz I.ok.above⟩
theorem ins_at (I : Inv X pins σ H s) {a dx : Addr} {fs : List (Str × V)} (e : H a = some (.ins C dx fs)) : ∃ ox od, PySem.W.InstAt s.heap a ox C od := by
  obtain ⟨mA, O, _, _, _, _⟩ := ins_get I.hok e
  obtain ⟨od, J, _⟩ := O.look
  exact ⟨_, _, J⟩
/-- the promise asked of a method, a its object -/
def rMd (C : Addr) (sp : Sp) (E : XK) : List V → Hp → VK → Prop := fun vs H Q => ∃ (a dx : Addr) (fs : List (Str × V)) (r : List V), vs = .ref a :: r ∧ H a = some (.ins C dx fs) ∧ sp vs H Q E
/-- x in y, y of one's own class -/
def rInO (C : Addr) (sp : Sp) (E : XK) : R2 := fun x y H Q => ∃ (a dx : Addr) (fs : List (Str × V)), y = .ref a ∧ H a = some (.ins C dx fs) ∧ sp [.ref a, x] H (fun v H' => ∃ b, v = .bl b ∧ Q (.bl b) H') E
theorem op_inO (d : Md X.prog X.w X.K X.mg X.base G k C "__contains__" sp) (hr : Room j X.A) (hk : k ≤ j) (hg : G = true → X.A.guards = some []) (hx : Passes (L2.CX X.prog X.w) X E) : OpR X (compareOp .In) (rInO C sp E) := by
  intro pins s σ H x y v u Q I rx ry ⟨a, dx, fs, ey, ha, q⟩
  subst ey
  obtain rfl : u = Value.ref a := ry
  obtain ⟨f, fd, ps, F, hs, hf, hb⟩ := d.ex
  obtain ⟨m, fr⟩ := inv_fr I
  obtain ⟨ox, od, J⟩ := ins_at I ha
  refine PySem.W.in_K fr I.ok.mod.kin J hs hf (wpAny_mono (run_df F (hr.mono hk) hg hb hx I (vs := [V.ref a, x]) (.cons (show RelV (V.ref a) (Value.ref a) from rfl) (.cons rx .nil)) (.inl q)) (fun r s' z => ?_) fun _ _ e => e)
  obtain ⟨w, H', I', rw', b, rfl, q'⟩ := z
  obtain rfl : r = Value.bool b := rw'
  exact wpAny_truthy_bool ⟨.bl b, H', I', (show RelV (V.bl b) (Value.bool b) from rfl), q'⟩
/-- x <= y and the like, x of one's own class; t: the type of y -/
def rCmpO (K : PySem.W.Frag) (C : Addr) (sp : Sp) (E : XK) : R2 := fun x y H Q => ∃ (a dx : Addr) (fs : List (Str × V)), x = .ref a ∧ H a = some (.ins C dx fs) ∧ ((∃ b dy gs, y = .ref b ∧ H b = some (.ins C dy gs)) ∨ ∃ d, DD K H y d ∧ PySem.W.subIn K (.type (tyD d)) (.ref C) = some false) ∧ sp [.ref a, y] H Q E
theorem rel_not {v : V} {u : Value} (r : RelV v u) : u ≠ .notImplemented := fun z => by
  subst z
  cases v <;> first | (cases r; done) | (obtain ⟨_, h⟩ := r; exact nomatch h)
theorem back_of {Q : Value → Shared → Prop} {u : Value} {s : Shared} (n : u ≠ .notImplemented) (q : Q u s) : PySem.W.CmpBack Q u s := by
  cases u <;> first | exact q | exact absurd rfl n
theorem dd_type {y : V} {u : Value} {d : PyData} (I : Inv X pins σ H s) (h : DD X.K H y d) (r : RelV y u) : PySem.W.Looks (model X.prog X.w) s.heap (typeOf u) (.type (tyD d)) := by
  obtain ⟨P, Z, p, _⟩ := kit_of I r h.ty
  exact Z.ty _ _ I.kIn p
theorem op_cmpO {op : CmpOp} (d : Md X.prog X.w X.K X.mg X.base G k C (cmpInfo op).2.1 sp) (hop : ∀ a b, compareOp op a b = richCompare op a b) (hr : Room j X.A) (hk : k ≤ j) (hg : G = true → X.A.guards = some []) (hx : Passes (L2.CX X.prog X.w) X E) : OpR X (compareOp op) (rCmpO X.K C sp E) := by
  intro pins s σ H x y v u Q I rx ry ⟨a, dx, fs, ex, ha, hy, q⟩
  subst ex
  obtain rfl : v = Value.ref a := rx
  obtain ⟨f, fd, ps, F, hs, hf, hb⟩ := d.ex
  obtain ⟨m, fr⟩ := inv_fr I
  obtain ⟨ox, od, J⟩ := ins_at I ha
  have run := wpAny_mono (run_df F (hr.mono hk) hg hb hx I (vs := [V.ref a, y]) (.cons (show RelV (V.ref a) (Value.ref a) from rfl) (.cons ry .nil)) (.inl q)) (Q' := PySem.W.CmpBack (EP X pins σ Q)) (fun r s' z => by
    obtain ⟨w, H', I', rw', q'⟩ := z
    exact back_of (rel_not rw') ⟨w, H', I', rw', q'⟩) fun _ _ e => e
  rw [hop]
  rcases hy with ⟨b, dy, gs, ey, hb'⟩ | ⟨e, he, hn⟩
  · subst ey
    obtain rfl : u = Value.ref b := ry
    obtain ⟨ox', od', J'⟩ := ins_at I hb'
    exact PySem.W.cmp_K (by have := hr.units; omega) fr I.ok.mod.kin J J'.type (by unfold PySem.W.notFirst; simp) hs hf run
  · exact PySem.W.cmp_K (by have := hr.units; omega) fr I.ok.mod.kin J (dd_type I he ry) (by unfold PySem.W.notFirst; simp [hn]) hs hf run
/-- x | y and the like, both of one's own class -/
def rBinO (C : Addr) (sp : Sp) (E : XK) : R2 := fun x y H Q => ∃ (a dx : Addr) (fs : List (Str × V)) (b dy : Addr) (gs : List (Str × V)), x = .ref a ∧ y = .ref b ∧ H a = some (.ins C dx fs) ∧ H b = some (.ins C dy gs) ∧ sp [.ref a, .ref b] H Q E
theorem op_binO {op : Operator} (d : Md X.prog X.w X.K X.mg X.base G k C (PySem.dunder op.info.2) sp) (hc : PySem.W.selfFirst X.K C = true) (hr : Room j X.A) (hk : k ≤ j) (hg : G = true → X.A.guards = some []) (hx : Passes (L2.CX X.prog X.w) X E) : OpR X (binaryOp op) (rBinO C sp E) := by
  intro pins s σ H x y v u Q I rx ry ⟨a, dx, fs, b, dy, gs, ex, ey, ha, hb', q⟩
  subst ex
  subst ey
  obtain rfl : v = Value.ref a := rx
  obtain rfl : u = Value.ref b := ry
  obtain ⟨f, fd, ps, F, hs, hf, hb⟩ := d.ex
  obtain ⟨m, fr⟩ := inv_fr I
  obtain ⟨ox, od, J⟩ := ins_at I ha
  obtain ⟨ox', od', J'⟩ := ins_at I hb'
  refine PySem.W.binop_K fr I.ok.mod.kin J J'.type hc hs hf (wpAny_mono (run_df F (hr.mono hk) hg hb hx I (vs := [V.ref a, V.ref b]) (.cons (show RelV (V.ref a) (Value.ref a) from rfl) (.cons (show RelV (V.ref b) (Value.ref b) from rfl) .nil)) (.inl q)) (fun r s' z => ?_) fun _ _ e => e)
  obtain ⟨w, H', I', rw', q'⟩ := z
  exact back_of (rel_not rw') ⟨w, H', I', rw', q'⟩
end
end Aim

namespace Aim
open PySem PySem.Spec PyProof.Rows L2
open LamX (TabB Tabs CodeO)
open Stt (cnt sto)
variable {S : Type} [Stt S]
/-! ### a promise, told of no own thing, by position -/
section
variable {P : Program} {w : World} {K : PySem.W.Frag} {mg : Str → Option Value} {base : Heap} {TT : List (Addr × Str)} {k : Nat} {sp : GDSp S} {N ps : List Str} {st : Stmt}
theorem fnR_O {f : Addr} {fd : FuncData} {sp : Sp} (F : Rn P w K mg base false k f fd ps sp) (hb : L2.Binds K fd ps []) : FnR P w K mg base (L2.CX P w) k f (spO sp) := by
  intro A outer s H us vs Q E hr e0 r h
  obtain ⟨U, _, n, h⟩ := h
  have hl : vs.length = ps.length := F.len _ _ _ _ h
  have hb' := hb s us (e0.mod.kin.keeps fun b o e => (e0.bs b o e).1) (by rw [List.append_nil, ← r.length]; exact hl)
  rw [List.append_nil] at hb'
  refine codeAny_mono (F.run (s := s) (args := ⟨us, []⟩) hr (fun z => nomatch z) (env0_cutO e0) hb' r h) fun y s' hq => ?_
  match y, hq with
  | .error e, hq => exact cx_glueO e0.hok e0.frf hq
  | .ok (.ret u), hq => exact ce_glueO e0.hok e0.frf hq
/-- a method of the class at C, by data -/
structure MdD (P : Program) (w : World) (K : PySem.W.Frag) (mg : Str → Option Value) (base : Heap) (TT : List (Addr × Str)) (k : Nat) (C : Addr) (nm : Str) (sp : GDSp S) : Prop where
  ex : ∃ f : Addr, FnR P w K mg base (L2.CX P w) k f (spO (LSp K TT sp)) ∧ Meth K C nm f
structure MdH (K : PySem.W.Frag) (C : Addr) (nm qual : Str) (st : Stmt) : Prop where
  ex : ∃ (f : Addr) (fd : FuncData), L2.Fun K nm qual st f fd ∧ PySem.W.findIn K (.ref C) nm = some (some (.ref f)) ∧ PySem.W.isFn K (.ref f) = true
/-- a method that lets nothing out -/
theorem dat_okM {C : Addr} {nm qual : Str} (F : MdH K C nm qual st) (hb : ∀ (kV doc pm : Value) (an : Option Addr) (cdv ct : Value) (us : List Value), us.length = ps.length → bindArgs (PySem.W.fnOf nm qual (defArgs st) (defBody st) (defScope st) .none kV doc pm an cdv ct) ⟨us, []⟩ = pure (ps.zip us)) (S : FnScope N ps (defScope st))
    (body : ∀ (f : Addr) (cdv : Value) (A : Around) (outer : List Env) (s : Shared) (H : Hp) (E : XK), Room k (A.deeper (envOfC qual (defScope st) s.heap.objs.size f cdv)) →
      ∃ g, PSs (cxOf (L2.CX P w) P w K mg base N qual (defScope st) f cdv A outer s H E).nox (defBody st) (LS K TT E0 g) ∧ ∀ ds n PP R, sp ds n PP R → ds.length = ps.length ∧ g { nx := fun _ m => PP .non m, rt := PP, ex := R0 } (dstart N ds) n)
    (hl : ∀ ds n PP R, sp ds n PP R → ds.length = ps.length) : MdD P w K mg base TT (k + 1) C nm sp := by
  obtain ⟨f, fd, F, ha, hf⟩ := F.ex
  have hbb := F.binds hb
  have hkp := F.kp
  obtain ⟨oc, od, kV, doc, pm, an, cdv, ct, osl, rfl, lk, hcd⟩ := F.ex
  have len : ∀ vs H Q E, LSp K TT sp vs H Q E → vs.length = ps.length := fun vs H Q E h => by
    obtain ⟨ds, n, PP, R, s, h, _⟩ := h
    rw [s.length]
    exact hl _ _ _ _ h
  refine ⟨f, fnR_O (fd := _) (ps := ps) ⟨len, fun {A fr s H args us vs Q E} hr _ e0 b r q => LamX.run_ofS lk hcd S hr e0 b r (len _ _ _ _ q) fun hr' => ?_⟩ hbb, ha, hf, hkp⟩
  obtain ⟨g, hp, z⟩ := body f cdv _ _ _ _ _ hr'
  obtain ⟨ds, n, PP, R, se, h, kQ, kE, kS⟩ := q
  exact ⟨_, hp.nox, ends_of se (z ds n PP R h).2 kQ (.zero kE.tab) kS⟩
/-- .. that may raise -/
theorem dat_okMX {C : Addr} {nm qual : Str} (F : MdH K C nm qual st) (hb : ∀ (kV doc pm : Value) (an : Option Addr) (cdv ct : Value) (us : List Value), us.length = ps.length → bindArgs (PySem.W.fnOf nm qual (defArgs st) (defBody st) (defScope st) .none kV doc pm an cdv ct) ⟨us, []⟩ = pure (ps.zip us)) (S : FnScope N ps (defScope st))
    (body : ∀ (f : Addr) (cdv : Value) (A : Around) (outer : List Env) (s : Shared) (H : Hp) (E : XK), Room k (A.deeper (envOfC qual (defScope st) s.heap.objs.size f cdv)) →
      ∃ g, PSs (cxOf (L2.CX P w) P w K mg base N qual (defScope st) f cdv A outer s H E) (defBody st) (LS K TT E g) ∧ ∀ ds n PP R, sp ds n PP R → ds.length = ps.length ∧ g { nx := fun _ m => PP .non m, rt := PP, ex := R } (dstart N ds) n)
    (hl : ∀ ds n PP R, sp ds n PP R → ds.length = ps.length) : MdD P w K mg base TT (k + 1) C nm sp := by
  obtain ⟨f, fd, F, ha, hf⟩ := F.ex
  have hbb := F.binds hb
  have hkp := F.kp
  obtain ⟨oc, od, kV, doc, pm, an, cdv, ct, osl, rfl, lk, hcd⟩ := F.ex
  have len : ∀ vs H Q E, LSp K TT sp vs H Q E → vs.length = ps.length := fun vs H Q E h => by
    obtain ⟨ds, n, PP, R, s, h, _⟩ := h
    rw [s.length]
    exact hl _ _ _ _ h
  refine ⟨f, fnR_O (fd := _) (ps := ps) ⟨len, fun {A fr s H args us vs Q E} hr _ e0 b r q => LamX.run_ofS lk hcd S hr e0 b r (len _ _ _ _ q) fun hr' => ?_⟩ hbb, ha, hf, hkp⟩
  obtain ⟨g, hp, z⟩ := body f cdv _ _ _ _ _ hr'
  obtain ⟨ds, n, PP, R, se, h, kQ, kE, kS⟩ := q
  exact ⟨_, hp, ends_of se (z ds n PP R h).2 kQ kE kS⟩
end
section
variable {X : Cx} {TT : List (Addr × Str)} {E : XK} {C : Addr} {k j : Nat} {sp : GDSp S} {a b : Expr} {fa fb : GDE S} {pos : Pos}
theorem spO_go {n m : S} {H H1 : Hp} {vs : List V} {ds : List Dat} {P : Dat → S → Prop} {R : GRX S} {Q : VK} (x : ExE X.K TT E n H R) (st : StoOk X.K n H) (e : Fre X.K TT n H m H1) (s : SeesL X.K m H1 vs ds) (q : sp ds m P R) (k : ∀ d j v H', P d j → Fre X.K TT n H j H' → Sees X.K j H' v d → Q v H') : spO (LSp X.K TT sp) vs H1 Q E :=
  ⟨S, _, m, ds, m, P, R, s.mono (TT := TT) Fra.cut, q, fun d j v G p g t gone => k d j v _ p (e.trans (.glue g (e.st st) gone)) (t.grow (grow_glue gone)), ⟨(Fra.cut (K := X.K) (n := m)).tab (e.tab x.tab), fun C d j dd v G p g hd t gone => x.ex C d j dd v _ p (e.trans (Fre.glue g (e.st st) gone)) (grow_glue gone _ _ hd) (t.grow (grow_glue gone))⟩, (Fra.cut (TT := TT)).st (e.st st)⟩
def isObj (C : Addr) : Dat → Prop
  | .obj C' _ _ => C' = C
  | _ => False
theorem isObj_at {n : S} {H : Hp} {v : V} {d : Dat} (h : isObj C d) (s : Sees X.K n H v d) : ∃ a dx fs, v = .ref a ∧ H a = some (.ins C dx fs) := by
  cases d with
  | obj C' ks xs =>
    obtain rfl : C' = C := h
    cases s with
    | obj h1 h2 h3 => exact ⟨_, _, _, rfl, h1⟩
  | _ => exact h.elim
/-! ### x == y of one's own class -/
/-- no built-in type is below the class -/
def SubN (K : PySem.W.Frag) (C : Addr) : Prop := ∀ t ∈ (["NoneType", "bool", "int", "str", "tuple", "list", "dict", "float", "bytes"] : List String), PySem.W.subIn K (.type t) (.ref C) = some false
theorem op_cmpR {op : CmpOp} {f : Addr} {sp : Sp} (d : Meth X.K C (cmpInfo op).2.1 f) (F : FnR X.prog X.w X.K X.mg X.base (L2.CX X.prog X.w) k f sp) (hop : ∀ a b, compareOp op a b = richCompare op a b) (hr : Room k X.A) (hx : Passes (L2.CX X.prog X.w) X E) : OpR X (compareOp op) (rCmpO X.K C sp E) := by
  intro pins s σ H x y v u Q I rx ry ⟨a, dx, fs, ex, ha, hy, q⟩
  subst ex
  obtain rfl : v = Value.ref a := rx
  obtain ⟨m, fr⟩ := inv_fr I
  obtain ⟨ox, od, J⟩ := ins_at I ha
  have run := wpAny_mono (wpAny_call (run_fnR F hr hx I (us := [Value.ref a, u]) (vs := [V.ref a, y]) (.cons (show RelV (V.ref a) (Value.ref a) from rfl) (.cons ry .nil)) q)) (Q' := PySem.W.CmpBack (EP X pins σ Q)) (fun r s' z => by
    obtain ⟨w, H', I', rw', q'⟩ := z
    exact back_of (rel_not rw') ⟨w, H', I', rw', q'⟩) fun _ _ e => e
  rw [hop]
  rcases hy with ⟨b, dy, gs, ey, hb'⟩ | ⟨e, he, hn⟩
  · subst ey
    obtain rfl : u = Value.ref b := ry
    obtain ⟨ox', od', J'⟩ := ins_at I hb'
    exact PySem.W.cmp_K (by have := hr.units; omega) fr I.ok.mod.kin J J'.type (by unfold PySem.W.notFirst; simp) d.at_ d.fn run
  · exact PySem.W.cmp_K (by have := hr.units; omega) fr I.ok.mod.kin J (dd_type I he ry) (by unfold PySem.W.notFirst; simp [hn]) d.at_ d.fn run
def dCmpO (C : Addr) (sp : GDSp S) (fa fb : GDE S) : GDE S := fun ρ n P R => fa ρ n (fun d m => fb ρ m (fun e k => isObj C d ∧ (isObj C e ∨ plain e = true) ∧ sp [d, e] k P R) R) R
theorem tyD_in {d : PyData} : tyD d ∈ (["NoneType", "bool", "int", "str", "tuple", "list", "dict", "float", "bytes"] : List String) := by
  cases d <;> simp [tyD]
theorem LE.cmpO {σ : L2.St} {H : Hp} {Q : VK} (sn : SubN X.K C) (h : LE X.K TT E (dCmpO C sp fa fb) σ H Q) : tOp (rCmpO X.K C (spO (LSp X.K TT sp)) E) (LE X.K TT E fa) (LE X.K TT E fb) σ H Q := by
  obtain ⟨ρ, n, P, R, rl, f, k, x⟩ := h
  refine ⟨ρ, n, _, R, rl, f, fun d m v H1 q1 e1 s1 => ⟨ρ, m, _, R, rl.fre e1, q1, fun e j u H2 q2 e2 s2 => ?_, x.mono e1⟩, x⟩
  obtain ⟨hd, he, q⟩ := q2
  have s1 := s1.mono e2.toFra
  obtain ⟨a, dx, fs, rfl, ha⟩ := isObj_at hd s1
  refine ⟨a, dx, fs, rfl, ha, ?_, spO_go x rl.st (e1.trans e2) (.cons s1 (.cons s2 .nil)) q k⟩
  rcases he with he | he
  · obtain ⟨b, dy, gs, rfl, hb⟩ := isObj_at he s2
    exact .inl ⟨b, dy, gs, rfl, hb⟩
  · exact .inr ⟨_, s2.dd he, sn _ tyD_in⟩
theorem de_cmpO {op : CmpOp} (d : MdD X.prog X.w X.K X.mg X.base TT k C (cmpInfo op).2.1 sp) (sn : SubN X.K C) (hop : ∀ a b, compareOp op a b = richCompare op a b) (hr : Room j X.A) (hk : k ≤ j) (hx : Passes (L2.CX X.prog X.w) X E) (ha : PE X a (LE X.K TT E fa)) (hb : PE X b (LE X.K TT E fb)) (hm : behindInMarks op b = false) : PE X (.Compare a [op] [b] pos) (LE X.K TT E (dCmpO C sp fa fb)) := by
  obtain ⟨f, F, M⟩ := d.ex
  exact (pe_cmpR (op_cmpR M F hop (hr.mono hk) hx) ha hb hm).imp fun _ _ _ h => h.cmpO sn
theorem dt_cmpO {op : CmpOp} (d : MdD X.prog X.w X.K X.mg X.base TT k C (cmpInfo op).2.1 sp) (sn : SubN X.K C) (hop : ∀ a b, compareOp op a b = richCompare op a b) (hr : Room j X.A) (hk : k ≤ j) (hx : Passes (L2.CX X.prog X.w) X E) (ha : PE X a (LE X.K TT E fa)) (hb : PE X b (LE X.K TT E fb)) (hm : behindInMarks op b = false) : PT X (.Compare a [op] [b] pos) (LTs X.K TT E (dTst (dCmpO C sp fa fb))) := by
  obtain ⟨f, F, M⟩ := d.ex
  exact (pt_cmpR (op_cmpR M F hop (hr.mono hk) hx) ha hb hm).imp fun _ _ _ h => by
    have q := h.tst
    exact q.cmpO sn
/-! ### o.m(e, ..) -/
def dMeth (C : Addr) (m : Str) (sp : GDSp S) (fo : GDE S) (fr : GDA S) : GDE S := fun ρ n P R => fo ρ n (fun d i => (match d with
  | .obj C' ks _ => C' = C ∧ m ∉ ks
  | _ => False) ∧ fr ρ i (fun ds k => sp (d :: ds) k P R) R) R
theorem lookup_no {α : Type} {m : Str} : ∀ {ks : List Str} {xs : List α}, m ∉ ks → (ks.zip xs).lookup m = none
  | [], _, _ => by simp
  | _ :: _, [], _ => by simp
  | k :: ks, x :: xs, h => by
    rw [List.zip_cons_cons, List.lookup_cons]
    have : (m == k) = false := beq_eq_false_iff_ne.mpr fun z => h (by simp [z])
    rw [this]
    exact lookup_no fun z => h (by simp [z])
theorem de_meth {m : Str} {o e : Expr} {es : List Expr} {fo : GDE S} {fr : GDA S} {apos : Pos} {pl : Sem Bool} (d : MdD X.prog X.w X.K X.mg X.base TT k C m sp) (c : Cls X.K C) (hr : Room j X.A) (hk : k ≤ j) (hx : Passes (L2.CX X.prog X.w) X E) (ho : PE X o (LE X.K TT E fo)) (ha : PA X (e :: es) (LA X.K TT E fr))
    (hst : starEach (e :: es) X.env = (false, eval e X.env) :: starEach es X.env := by rfl) (hpl : (backTo pos (starEach es X.env)).any (·.1) = false := by rfl)
    (ht : eval (.Call (.Attribute o m apos) (e :: es) [] pos) X.env = (do
      let ov ← eval o X.env
      standAt apos.atName
      let (f, first) ← holding [ov] (getMethod ov m pl)
      callWith pos f first (backTo pos (starEach (e :: es) X.env)) (backToKw pos (keywordEach [] X.env))) := by rfl) : PE X (.Call (.Attribute o m apos) (e :: es) [] pos) (LE X.K TT E (dMeth C m sp fo fr)) := by
  obtain ⟨f, F, M⟩ := d.ex
  refine (pe_methR (pl := pl) ho c M F (hr.mono hk) hx ha hst hpl ht).imp fun σ H Q ⟨ρ, n, P, R, rl, q, k, x⟩ => ⟨ρ, n, _, R, rl, q, fun d i v H1 z e1 s => ?_, x⟩
  obtain ⟨hd, z⟩ := z
  split at hd
  · rename_i C' ks xs
    obtain ⟨rfl, nm⟩ := hd
    cases s with
    | obj h1 h2 h3 => exact ⟨_, _, _, rfl, h1, lookup_no nm, ρ, i, _, R, rl.fre e1, z, fun ds j vs H2 z2 e2 s2 => spO_go x rl.st (e1.trans e2) (.cons (.obj (e2.ins h1) h2 (h3.mono e2.toFra)) s2) z2 k, x.mono e1⟩
  · exact hd.elim
/-! ### isinstance(x, C), C one's own class -/
structure InsT (K : PySem.W.Frag) (C : Addr) : Prop where
  cl : Cls K C
  ha : PySem.W.findIn K (.ref C) "__class__" = some (some (.builtin "object.__class__"))
  hn : PySem.W.specialIn K (.builtin "object.__class__") "__get__" = some (some (.builtin "getset_descriptor.__get__"))
  htk : PySem.W.takesIn K (.builtin "object.__class__") = some true
  hm : PySem.W.mroIn K C (.type "object") = some true
  self : PySem.W.kitOne K (.ref C) (.ref C) = some true
  no : ∀ t ∈ (["NoneType", "bool", "int", "str", "bytes", "tuple", "list", "dict"] : List String), PySem.W.kitOne K (.type t) (.ref C) = some false
def gIsO (C : Addr) : Dat → (Dat → Prop) → Prop
  | .obj C' _ _, P => C' = C ∧ P (.bl true)
  | d, P => Option.isSome (tyK d) = true ∧ P (.bl false)
theorem de_isO {e : Expr} {f : GDE S} (T : InsT X.K C) (h : PE X e (tCB (rIsi X.K) (tCons (LE X.K TT E f) (tCons (tC (.ref C)) tNil)))) : PE X e (LE X.K TT E (dUn (gIsO C) f)) := h.imp fun σ H Q ⟨ρ, n, P, R, r, q, k, x⟩ => ⟨ρ, n, _, R, r, q, fun d m v H1 z e s => by
  have no : ∀ {d : Dat}, Sees X.K m H1 v d → Option.isSome (tyK d) = true → P (.bl false) m → rIsi X.K [v, .ref C] H1 Q := fun {d} s hd z => by
    obtain ⟨t, ht⟩ := Option.isSome_iff_exists.mp hd
    exact ⟨v, .ref C, _, _, false, rfl, .own C, s.tyx ht, T.no t (by
      rcases tyK_mem ht with h | h | h | h | h | h | h | h <;> subst h <;> simp), k _ m _ H1 z e (.bl _)⟩
  unfold gIsO at z
  split at z
  · obtain ⟨rfl, z⟩ := z
    cases s with
    | obj h1 h2 h3 => exact ⟨_, .ref _, _, _, true, rfl, .own _, .base (.ins h1 T.cl T.ha T.hn T.htk T.hm), T.self, k _ m _ H1 z e (.bl _)⟩
  · exact no s z.1 z.2, x⟩
end
end Aim

namespace Aim
open PySem PySem.Spec PyProof.Rows L2
open LamX (TabB Tabs CodeO)
open Stt (cnt sto)
variable {S : Type} [Stt S]
/-! ### repr of any plain data: the base knows the dict of modules -/
def SysB (base : Heap) : Prop := ∃ (o : Obj) (es : Array DictEntry) (ep : Nat), base.get? sysModules = some o ∧ o.data = .dict es ep
mutual
def pyR : Dat → PyData
  | .non => .none | .bl b => .bool b | .int i => .int i | .str x => .str x
  | .tup xs => .tuple (pyRs xs) | .lst xs => .list (pyRs xs)
  | .dct ks xs => .dict ((ks.map keyD).zip (pyRs xs))
  | .byt _ => .none | .ty _ => .none | .ref _ => .none | .pot => .none | .obj _ _ _ => .none | .exc _ _ => .none | .scr _ => .none
def pyRs : List Dat → List PyData
  | [] => []
  | x :: xs => pyR x :: pyRs xs
end
mutual
def okR : Dat → Bool
  | .non => true | .bl _ => true | .int _ => true | .str _ => true
  | .tup xs => okRs xs | .lst xs => okRs xs | .dct _ xs => okRs xs
  | .byt _ => false | .ty _ => false | .ref _ => false | .pot => false | .obj _ _ _ => false | .exc _ _ => false | .scr _ => false
def okRs : List Dat → Bool
  | [] => true
  | x :: xs => okR x && okRs xs
end
theorem pyRs_len : ∀ ds : List Dat, (pyRs ds).length = ds.length
  | [] => rfl
  | _ :: r => congrArg (· + 1) (pyRs_len r)
section
variable {X : Cx} {pins : List (Addr × Obj)} {σ : L2.St} {H : Hp} {s : Shared} {n : S}
theorem SeesL.len {K : PySem.W.Frag} : ∀ {vs : List V} {ds : List Dat}, SeesL K n H vs ds → vs.length = ds.length
  | _, _, .nil => rfl
  | _, _, .cons _ r => congrArg (· + 1) r.len
mutual
theorem Sees.readsS (b : SysB X.base) (I : Inv X pins σ H s) : ∀ {v : V} {d : Dat} {u : Value}, Sees X.K n H v d → okR d = true → RelV v u → ∃ as, Reads s.heap u (pyR d) as ∧ sysModules ∉ as
  | _, _, _, .non, _, r => by
    cases r
    exact ⟨_, Reads.none, fun h => nomatch h⟩
  | _, _, _, .bl b, _, r => by
    cases r
    exact ⟨_, Reads.bool b, fun h => nomatch h⟩
  | _, _, _, .int i, _, r => by
    obtain ⟨t, rfl⟩ := r
    exact ⟨_, Reads.int i t, fun h => nomatch h⟩
  | _, _, _, .str x _, _, r => by
    obtain ⟨t, rfl⟩ := r
    exact ⟨_, Reads.str x t, fun h => nomatch h⟩
  | _, _, _, .lst (a := a) hs _ ha, p, r => by
    cases r
    obtain ⟨its, rv, ⟨o, n, ho, hc, _, hd⟩, _⟩ := I.list (.of hs)
    obtain ⟨as, hr, hn⟩ := SeesL.readsS b I ha p rv
    refine ⟨_, Reads.list ho hc hd hr, fun hm => ?_⟩
    rcases List.mem_cons.mp hm with q | q
    · obtain ⟨ob, es, ep, hb, hdt⟩ := b
      have hb' := I.bk _ _ hb
      rw [q, ho] at hb'
      obtain rfl := Option.some.inj hb'
      rw [hd] at hdt
      cases hdt
    · exact hn q
  | _, _, _, .tup hs _ ha, p, r => by
    cases r
    obtain ⟨its, rv, ⟨o, ho, hc, n, hd⟩, _⟩ := I.tuple hs.sqT
    obtain ⟨as, hr, hn⟩ := SeesL.readsS b I ha p rv
    exact ⟨_, Reads.tuple ho hc hd hr, hn⟩
  | _, _, _, .dct (a := a) (ks := ks) (xs := xs) (ds := ds) hs hk ha, p, r => by
    cases r
    obtain ⟨_, hS, vs, rk, o, es, ep, ho, hx, hd, _, hp, _⟩ := dk_rd I.hok hs
    obtain ⟨e1, e2⟩ := kv_keys rk
    have hl : (ks.map keyD).length = (pyRs ds).length := by rw [List.length_map, hk, ha.len, pyRs_len]
    have k1 : ReadsAll s.heap (es.toList.map (·.key)) (((ks.map keyD).zip (pyRs ds)).map (·.1)) [] := by
      have z1 : ((ks.map keyD).zip (pyRs ds)).map (·.1) = ks.map keyD := List.map_fst_zip (by omega)
      have z2 : (ks.zip xs).map (fun kv => keyD kv.1) = ks.map keyD := by
        have z3 : (ks.zip xs).map (fun kv => keyD kv.1) = ((ks.zip xs).map (·.1)).map keyD := by
          rw [List.map_map]
          rfl
        rw [z3, List.map_fst_zip (by omega)]
      rw [z1, ← z2, e1]
      exact keysRead hp
    rw [List.map_snd_zip (by omega)] at e2
    obtain ⟨as, hr, hn⟩ := SeesL.readsS b I ha p e2
    have k2 : ReadsAll s.heap (es.toList.map (·.val)) (((ks.map keyD).zip (pyRs ds)).map (·.2)) as := by
      rw [valsPaired hp, List.map_snd_zip (by omega)]
      exact hr
    refine ⟨_, Reads.dict ho hx.1 hd k1 k2, fun hm => ?_⟩
    rcases List.mem_cons.mp hm with q | q
    · rw [← q] at hS
      exact absurd hS (by decide)
    · exact hn q
  | _, _, _, .byt _ _, p, _ => nomatch p
  | _, _, _, .ty _, p, _ => nomatch p
  | _, _, _, .ref _, p, _ => nomatch p
  | _, _, _, .pot _ _, p, _ => nomatch p
  | _, _, _, .obj _ _ _, p, _ => nomatch p
  | _, _, _, .exc _ _ _, p, _ => nomatch p
  | _, _, _, .scr _, p, _ => nomatch p
theorem SeesL.readsS (b : SysB X.base) (I : Inv X pins σ H s) : ∀ {vs : List V} {ds : List Dat} {us : List Value}, SeesL X.K n H vs ds → okRs ds = true → Vals vs us → ∃ as, ReadsAll s.heap us (pyRs ds) as ∧ sysModules ∉ as
  | _, _, _, .nil, _, r => by
    cases r
    exact ⟨_, ReadsAll.nil, fun h => nomatch h⟩
  | _, _, _, .cons h1 h2, p, r => by
    cases r with
    | cons r1 r2 =>
      have p := Bool.and_eq_true_iff.mp p
      obtain ⟨as, q1, n1⟩ := Sees.readsS b I h1 p.1 r1
      obtain ⟨bs, q2, n2⟩ := SeesL.readsS b I h2 p.2 r2
      refine ⟨_, ReadsAll.cons q1 q2, fun hm => ?_⟩
      rcases List.mem_append.mp hm with q | q
      · exact n1 q
      · exact n2 q
end
/-- data that repr shows -/
structure ShowD (d : Dat) : Prop where
  ok : okR d = true
  sh : (pyR d).showable = true
  dp : (pyR d).depth ≤ 40
  ln : (pyR d).shown.length ≤ sizeLine
def rReprS (K : PySem.W.Frag) : List V → Hp → VK → Prop := fun xs H Q => ∃ (U : Type) (_ : Stt U) (x : V) (n : U) (d : Dat), xs = [x] ∧ Sees K n H x d ∧ ShowD d ∧ Q (.str (pyR d).shown) H
theorem call_reprS (b : SysB X.base) (hg : X.A.guards = some []) (hu : X.A.units + 64 < cLine) : CallR X (.builtin "repr") (rReprS X.K) := by
  intro pins s σ H xs us Q I r ⟨U, _, x, m, d, ex, hd, hsd, q⟩
  subst ex
  cases r with
  | cons rx rr =>
    cases rr
    rename_i u
    obtain ⟨ok, hs, hz, hn⟩ := hsd
    obtain ⟨as, hr, hsm⟩ := hd.readsS b I ok rx
    have fin : ∀ (h' : Heap) (u : Tok) (tk : Nat), (∀ b o, s.heap.get? b = some o → h'.get? b = some o) → EP X pins σ Q (.str (pyR d).shown u) { s with heap := h', toks := tk } := fun h' u tk k => ⟨.str (pyR d).shown, H, I.kept (t' := tk) k, ⟨_, rfl⟩, q⟩
    cases hd with
    | non => cases rx; exact P.repr_of_none (fin _ _ _ fun _ _ e => e)
    | bl b => cases rx; exact P.repr_of_bool (fin _ _ _ fun _ _ e => e)
    | int i =>
      obtain ⟨t, rfl⟩ := rx
      exact P.repr_of_int (by simpa [pyR, PyData.showable] using hs) (fin _ _ _ fun _ _ e => e)
    | str y l =>
      obtain ⟨t, rfl⟩ := rx
      exact P.repr_of_str (fin _ _ _ fun _ _ e => e) hn
    | lst h1 l h2 => cases rx; exact repr_of_reads' hr hs (fun _ => hsm) hg (by omega) (fun _ _ e => e) fin hn
    | tup h1 l h2 => cases rx; exact repr_of_reads' hr hs (fun _ => hsm) hg (by omega) (fun _ _ e => e) fin hn
    | dct h1 l h2 => cases rx; exact repr_of_reads' hr hs (fun _ => hsm) hg (by omega) (fun _ _ e => e) fin hn
    | _ => cases ok
end
section
variable {X : Cx} {K : PySem.W.Frag} {TT : List (Addr × Str)} {E : XK} {fa fb : GDE S} {a b : Expr} {pos : Pos}
/-- repr(x) == repr(y) -/
def dRep2 (neg : Bool) (fa fb : GDE S) : GDE S := fun ρ n P R => fa ρ n (fun d m => ShowD d ∧ fb ρ m (fun e k => ShowD e ∧ P (.bl (neg ^^ decide ((pyR d).shown = (pyR e).shown))) k) R) R
abbrev tRepr (K : PySem.W.Frag) (f : TE) : TE := tCB (rReprS K) (tCons f tNil)
theorem dec_strV {x y : Str} : decide (V.str x = V.str y) = decide (x = y) := by
  rw [Bool.eq_iff_iff, decide_eq_true_eq, decide_eq_true_eq]
  exact ⟨fun h => by injection h, fun h => by rw [h]⟩
theorem LE.rep2 {neg : Bool} {σ : L2.St} {H : Hp} {Q : VK} (h : LE K TT E (dRep2 neg fa fb) σ H Q) : tOp (fun x y H Q => scal x y = true ∧ Q (.bl (neg ^^ decide (x = y))) H) (tRepr K (LE K TT E fa)) (tRepr K (LE K TT E fb)) σ H Q := by
  obtain ⟨ρ, n, P, R, rl, f, k, x⟩ := h
  refine ⟨ρ, n, _, R, rl, f, fun d m v H1 q1 e1 s1 => ?_, x⟩
  obtain ⟨sd, q1⟩ := q1
  refine ⟨S, _, v, m, d, rfl, s1, sd, ρ, m, _, R, rl.fre e1, q1, fun e j u H2 q2 e2 s2 => ?_, x.mono e1⟩
  obtain ⟨se, q2⟩ := q2
  refine ⟨S, _, u, j, e, rfl, s2, se, rfl, ?_⟩
  rw [dec_strV]
  exact k _ j _ H2 q2 (e1.trans e2) (.bl _)
theorem rep_eq (h : OpR X (compareOp .Eq) rEq) : OpR X (compareOp .Eq) (fun x y H Q => scal x y = true ∧ Q (.bl (false ^^ decide (x = y))) H) := by
  have e : (fun (x y : V) (H : Hp) (Q : VK) => scal x y = true ∧ Q (.bl (false ^^ decide (x = y))) H) = rEq := by
    funext x y H Q
    simp [rEq]
  rw [e]
  exact h
theorem rep_ne (h : OpR X (compareOp .NotEq) rNe) : OpR X (compareOp .NotEq) (fun x y H Q => scal x y = true ∧ Q (.bl (true ^^ decide (x = y))) H) := by
  have e : (fun (x y : V) (H : Hp) (Q : VK) => scal x y = true ∧ Q (.bl (true ^^ decide (x = y))) H) = rNe := by
    funext x y H Q
    simp [rNe]
  rw [e]
  exact h
theorem de_repEq (ha : PE X a (tRepr X.K (LE X.K TT E fa))) (hb : PE X b (tRepr X.K (LE X.K TT E fb))) (hm : behindInMarks .Eq b = false) : PE X (.Compare a [.Eq] [b] pos) (LE X.K TT E (dRep2 false fa fb)) := (pe_cmpR (rep_eq op_eq) ha hb hm).imp fun _ _ _ h => h.rep2
theorem de_repNe (ha : PE X a (tRepr X.K (LE X.K TT E fa))) (hb : PE X b (tRepr X.K (LE X.K TT E fb))) (hm : behindInMarks .NotEq b = false) : PE X (.Compare a [.NotEq] [b] pos) (LE X.K TT E (dRep2 true fa fb)) := (pe_cmpR (rep_ne op_ne) ha hb hm).imp fun _ _ _ h => h.rep2
theorem dt_repEq (ha : PE X a (tRepr X.K (LE X.K TT E fa))) (hb : PE X b (tRepr X.K (LE X.K TT E fb))) (hm : behindInMarks .Eq b = false) : PT X (.Compare a [.Eq] [b] pos) (LTs X.K TT E (dTst (dRep2 false fa fb))) := (pt_cmpR (rep_eq op_eq) ha hb hm).imp fun _ _ _ h => by
  have q := h.tst
  exact q.rep2
theorem dt_repNe (ha : PE X a (tRepr X.K (LE X.K TT E fa))) (hb : PE X b (tRepr X.K (LE X.K TT E fb))) (hm : behindInMarks .NotEq b = false) : PT X (.Compare a [.NotEq] [b] pos) (LTs X.K TT E (dTst (dRep2 true fa fb))) := (pt_cmpR (rep_ne op_ne) ha hb hm).imp fun _ _ _ h => by
  have q := h.tst
  exact q.rep2
end
/-! ### a tuple beside the empty one -/
section
variable {X : Cx}
def rNeT0 (K : PySem.W.Frag) : R2 := fun x y H Q => ∃ (a b : Addr) (xs : List V), x = .ref a ∧ y = .ref b ∧ SqT K H a xs ∧ SqT K H b [] ∧ Q (.bl (!xs.isEmpty)) H
theorem op_neT0 (hu : X.A.units + 64 < cLine) : OpR X (compareOp .NotEq) (rNeT0 X.K) := by
  intro pins s σ H x y v u Q I rx ry ⟨a, b, xs, ex, ey, ha, hb, q⟩
  subst ex
  subst ey
  obtain rfl : v = Value.ref a := rx
  obtain rfl : u = Value.ref b := ry
  obtain ⟨i1, r1, ⟨o1, g1, c1, n1, d1⟩, _⟩ := I.tuple ha
  obtain ⟨i2, r2, ⟨o2, g2, c2, n2, d2⟩, _⟩ := I.tuple hb
  cases r2
  have l1 : s.heap.IsTuple a i1.toArray := ⟨o1, g1, c1, n1, d1⟩
  have l2 : s.heap.IsTuple b #[] := ⟨o2, g2, c2, n2, d2⟩
  have z := SeqAt.RcNeAt.tuples (A := X.A) (e := fun _ => true) l1 l2 (by omega) (fun j h1 h2 => absurd h2 (by simp))
  refine z _ _ _ _ ⟨.bl (!xs.isEmpty), H, I, ?_, q⟩
  cases r1 with
  | nil => rfl
  | cons h t => simp [L2.RelV]
def gNeT0 : G2
  | .tup xs, .tup [], P => P (.bl (!xs.isEmpty))
  | _, _, _ => False
theorem od_neT0 {K : PySem.W.Frag} : OpD K (rNeT0 K) gNeT0 := fun n x y d e H Q P g s1 s2 k => by
  unfold gNeT0 at g
  split at g
  · cases s1 with
    | tup h1 l1 q1 =>
      cases s2 with
      | tup h2 l2 q2 =>
        cases q2
        refine ⟨_, _, _, rfl, rfl, h1.sqT, h2.sqT, ?_⟩
        have e : ∀ {vs : List V} {ds : List Dat}, SeesL K n H vs ds → vs.isEmpty = ds.isEmpty := fun s => by cases s <;> rfl
        rw [e q1]
        exact k _ _ H g (.refl _) (.bl _)
  · exact g.elim
end
/-! ### the law's own call, the dict of modules known -/
theorem sysB_of {base : Heap} {m : Str → Option Value} (n : base.Ns sysModules m) : SysB base := by
  obtain ⟨o, es, ep, ho, hd, _⟩ := n
  exact ⟨o, es, ep, ho, hd⟩
section
variable {P : Program} {w : World} {K : PySem.W.Frag} {mg : Str → Option Value} {h : Heap} {TT : List (Addr × Str)}
theorem at_lawS {l : PySem.W.OpenLaw} {k : Nat} {x : Str} {st : Stmt} {fa : Addr} {cs : List (Addr × Addr)} (F : Has K mg "law" st) (hfa : mg "law" = some (.ref fa)) (hTT : ∀ p ∈ TT, ∃ c, (c, p.1) ∈ cs)
    (hT : ∀ p ∈ cs, h.get? p.2 = some tab0 ∧ K.lookup p.2 = none ∧ PySem.W.CodeHd h p.1 p.2)
    (hb : ∀ (kV doc pm : Value) (an : Option Addr) (cdv ct : Value) (u : Value), bindArgs (PySem.W.fnOf "law" "law" (defArgs st) (defBody st) (defScope st) .none kV doc pm an cdv ct) ⟨[u], []⟩ = pure [(x, u)])
    (S : h.NoSeer) (D : ∀ base : Heap, SysB base → (∀ p ∈ cs, TabB base mg p.1 p.2) → DfW l.prog w K mg base true k "law" st [x] (LSp K TT spLaw)) : AtLaw l w K k 63 x mg fa h := by
  obtain ⟨f, fd, F, hm⟩ := F.ex
  have e : f = fa := by
    have := hm.symm.trans hfa
    cases this
    rfl
  subst e
  refine ⟨fd, cs, LSp K TT spLaw, hT, ?_, ?_, ?_⟩
  · obtain ⟨oc, od, kV, doc, pm, an, cdv, ct, osl, rfl, lk, hcd⟩ := F.ex
    exact fun s u => .of_eq (hb kV doc pm an cdv ct u)
  · intro H a ns hl hbits ht hs
    refine ⟨[.scr ns], 0, fun d _ => d = .bl true, R0, .cons (.scr hs) .nil, ⟨ns, rfl, hl, hbits, rfl, fun _ => rfl⟩, fun d m v H' e _ s => ?_, .zero fun p hp => ?_, .nat⟩
    · subst e
      cases s
      rfl
    · obtain ⟨c, hc⟩ := hTT p hp
      exact LamX.TabS.nil (ht _ hc)
  · intro base _ _ sy TB
    obtain ⟨mm, nm, _⟩ := S.mods
    obtain ⟨f', fd', F', R, hm', _⟩ := (D base (sysB_of (sy mm nm)) TB).ex
    have e : f' = f := by
      have := hm'.symm.trans hm
      cases this
      rfl
    subst e
    rw [fun_uniq F F']
    exact R
end
end Aim

namespace Aim
open PySem PySem.Spec PyProof.Rows L2
open LamX (TabB Tabs CodeO)
open Stt (cnt sto)
variable {S : Type} [Stt S]
section
variable {K : PySem.W.Frag} {X : Cx} {TT : List (Addr × Str)} {E : XK} {st : Stmt}
/-! ### xs.extend(ys) of an own list -/
def OwnD2 (K : PySem.W.Frag) (r : V → List V → Hp → VK → Prop) (g : GO) : Prop := ∀ {U : Type} [Stt U] (n : U) (l : Addr) (xs vs : List V) (ds as : List Dat) (G H : Hp) (Q : VK) (P : List Dat → Prop), (∀ b zs, G b = some (.lst zs) → H b = some (.lst zs)) → g ds as P → SeesL K n G xs ds → SeesL K n G vs as → H l = some (.lst xs) → xs.length ≤ sizeLine → (∀ ds' xs', P ds' → SeesL K n G xs' ds' → xs'.length ≤ sizeLine → Q .non (upd H l (.lst xs'))) → r (.ref l) vs H Q
theorem ds_om2 {i : Nat} {r : V → List V → Hp → VK → Prop} {g : GO} {fr : GDA S} (o : OwnD2 K r g) (h : PS X st (tOM i r (LA K TT E fr))) : PS X st (LS K TT E (dOM i g fr)) := h.imp fun D σ H ⟨ρ, n, P, rl, q, k⟩ => by
  obtain ⟨ds, hρ, q⟩ := ownOf_of q
  obtain ⟨a, xs, hσ, l, hH, hs, sx⟩ := rl.owned hρ
  refine ⟨a, xs, hσ, hH, ρ, n, _, P.ex, rl, q, fun as m vs H1 q1 e1 s1 => ?_, k.ex.toE⟩
  obtain ⟨ds', hρ', q1⟩ := ownOf_of q1
  rw [hρ] at hρ'
  cases hρ'
  have h1 := (e1.own _ _ hH hs).1
  have hs1 := (e1.own _ _ hH hs).2
  refine ⟨xs, h1, o m a xs vs ds as H1 _ _ _ (fun b zs e => ?_) q1 (sx.mono e1.toFra) s1 upd_same l fun ds' xs' q2 s2 l2 => ⟨xs', upd_same, ?_⟩⟩
  · rw [upd_ne]
    · exact e
    · intro z
      subst z
      rw [h1] at e
      cases e
  rw [upd_upd, upd_upd]
  exact k.nx _ m _ _ q2 (e1.toFra.trans (.own h1 hs1)) ((rl.fre e1).write hρ hσ l h1 hs1 l2 s2)
def gExtend : GO
  | ds, [.lst es], P => ds.length + es.length ≤ sizeLine ∧ P (ds ++ es)
  | _, _, _ => False
theorem od_extend : OwnD2 K rExtend gExtend := fun n l xs vs ds as G H Q P hg g sx sv hl lx k => by
  unfold gExtend at g
  split at g
  · obtain ⟨v, rfl, w⟩ := sv.one
    cases w with
    | lst h1 l1 s1 =>
      have h := g.1
      rw [← sx.length, ← s1.length] at h
      exact ⟨l, _, xs, _, rfl, rfl, hl, hg _ _ h1, h, k _ _ g.2 (sx.append s1) (by rw [List.length_append]; exact h)⟩
  · exact g.elim
/-! ### xs[i] of an own list -/
def rIxO : R2 := fun x y H Q => ∃ (p : Addr) (xs : List V) (i : Int) (v : V), x = .ref p ∧ y = .int i ∧ H p = some (OwnO xs p) ∧ atI xs i = some v ∧ Q v H
theorem ix_own : IxR X rIxO := by
  intro value slice pins s σ H x y v u Q I rx ry ⟨p, xs, i, w, ex, ey, hH, ha, q⟩ hs
  refine thn (ix_list value slice pins s σ (upd H p (.lst xs)) x y v u (fun w' H1 => w' = w ∧ H1 = upd H p (.lst xs)) (of_own I hH) rx ry ⟨p, xs, i, w, ex, ey, .of upd_same, ha, rfl, rfl⟩ hs) fun r s1 ⟨w', H1, I1, r1, e1, e2⟩ => ?_
  subst e1
  subst e2
  have J := to_own I1 (xs := xs) upd_same
  rw [upd_upd, upd_self hH] at J
  exact ⟨w', H, J, r1, q⟩
def dIxO (i : Nat) (fi : GDE S) : GDE S := fun ρ n P R => ownOf (slAt ρ i) fun ds => fi ρ n (fun k j => asI k fun z => ∃ d, atI ds z = some d ∧ P d j) R
theorem de_ixO {i : Nat} {a b : Expr} {fi : GDE S} {pos : Pos} (ha : PE X a (tVar i)) (hb : PE X b (LE X.K TT E fi)) (hs : PlainIx b) : PE X (.Subscript a b pos) (LE X.K TT E (dIxO i fi)) := (pe_ix ix_own ha hb hs).imp fun σ H Q ⟨ρ, n, P, R, rl, q, k, x⟩ => by
  obtain ⟨ds, hρ, q⟩ := ownOf_of q
  obtain ⟨a, xs, hσ, _, _, _⟩ := rl.owned hρ
  refine ⟨.ref a, hσ, ρ, n, _, R, rl, q, fun kd j y H2 z e2 s2 => ?_, x⟩
  obtain ⟨i2, rfl, z⟩ := asI_of z
  obtain ⟨d, hd, z⟩ := z
  have r2 := rl.fre e2
  obtain ⟨a', xs, hσ', l, hH, hs, sx⟩ := r2.owned hρ
  rw [hσ] at hσ'
  cases hσ'
  obtain ⟨v, hv, sv⟩ := atI_sees sx hd
  exact ⟨a, xs, i2, v, rfl, s2.int_iff, hH, hv, k d j v H2 z e2 sv⟩
end
end Aim

namespace Aim
open PySem PySem.Spec PyProof.Rows L2
open LamX (TabB Tabs CodeO)
open Stt (cnt sto)
variable {S : Type} [Stt S]
section
variable {K : PySem.W.Frag} {X : Cx} {TT : List (Addr × Str)} {E : XK} {fa fb : GDE S}
/-! ### t.index(x) of texts -/
def gTIndex : GM
  | .tup ds, [.str z], P => ∃ (ys : List Str) (j : Nat), ds = ys.map Dat.str ∧ ys[j]? = some z ∧ (∀ m, m < j → ys[m]? ≠ some z) ∧ P (.int (j : Nat))
  | _, _, _ => False
def dTIdx (fo : GDE S) (t : GDA S) : GDE S := fun ρ n P R => fo ρ n (fun d m => (∃ ds, d = .tup ds) ∧ t ρ m (fun ds k => gTIndex d ds fun z => P z k) R) R
abbrev rTIdx (K : PySem.W.Frag) : V → List V → Hp → VK → Prop := fun x xs H Q => ∃ p, ∃ ys : List Str, ∃ z j, x = .ref p ∧ xs = [.str z] ∧ SqT K H p (ys.map V.str) ∧ ys[j]? = some z ∧ (∀ m, m < j → ys[m]? ≠ some z) ∧ Q (.int (j : Nat)) H
theorem LE.tidx {fo : GDE S} {fr : GDA S} {σ : L2.St} {H : Hp} {Q : VK} (h : LE K TT E (dTIdx fo fr) σ H Q) : tBMN K (rTIdx K) (LE K TT E fo) (LA K TT E fr) σ H Q := by
  obtain ⟨ρ, n, P, R, rl, f, k, x⟩ := h
  refine ⟨ρ, n, _, R, rl, f, fun d m v H1 q1 e1 s1 => ?_, x⟩
  obtain ⟨⟨ds, rfl⟩, q1⟩ := q1
  obtain ⟨a, xs, ev, h1, l1, t1⟩ := s1.tup_iffN
  subst ev
  refine ⟨⟨a, xs, rfl, h1⟩, ρ, m, _, R, rl.fre e1, q1, fun es j vs H2 g e2 s2 => ?_, x.mono e1⟩
  have s1 := s1.mono e2.toFra
  obtain ⟨a', xs', ev, h2, l2, t2⟩ := s1.tup_iff
  cases ev
  unfold gTIndex at g
  split at g
  · rename_i ds' z e3
    cases e3
    obtain ⟨v, rfl, w⟩ := s2.one
    obtain ⟨ys, i, rfl, g1, g2, p⟩ := g
    rw [t2.txts.1] at h2
    exact ⟨a, ys, _, i, rfl, by rw [w.str_iff.1], h2, g1, g2, k _ j _ H2 p (e1.trans e2) (.int _)⟩
  · exact g.elim
theorem de_tidx {e : Expr} {fo : GDE S} {fr : GDA S} (h : PE X e (tBMN X.K (rTIdx X.K) (LE X.K TT E fo) (LA X.K TT E fr))) : PE X e (LE X.K TT E (dTIdx fo fr)) := h.imp fun _ _ _ h => h.tidx
/-! ### xs + ys, a new list -/
def gCat (fa fb : GDE S) : GDA S := fun ρ n P R => fa ρ n (fun d m => fb ρ m (fun e k => lstOf d fun ds => lstOf e fun es => ds.length + es.length ≤ sizeLine ∧ P (ds ++ es) k) R) R
theorem lf_add {σ : L2.St} {H : Hp} {Q : VK} (h : LF K TT E (gCat fa fb) σ H Q) : tOp rCat (LE K TT E fa) (LE K TT E fb) σ H Q := by
  obtain ⟨ρ, n, P, R, r, q, k, x⟩ := h
  refine ⟨ρ, n, _, R, r, q, fun d m v H1 z e s => ⟨ρ, m, _, R, r.fre e, z, fun d2 m2 v2 H2 z2 e2 s2 => ?_, x.mono e⟩, x⟩
  obtain ⟨es, rfl, z3⟩ := lstOf_of (show lstOf d _ from z2)
  replace z2 := z3
  obtain ⟨ds, rfl, z2⟩ := lstOf_of z2
  obtain ⟨a, xs, rfl, h1, l1, s1⟩ := (s.mono e2.toFra).lst_at
  obtain ⟨b, ys, rfl, h2, l2, s3⟩ := s2.lst_at
  have hz : xs.length + ys.length ≤ sizeLine := by rw [s1.length, s3.length]; exact z2.1
  exact ⟨a, b, xs, ys, rfl, rfl, h1, h2, hz, fun p hp => lf_grow k z2.2 (e.trans e2) r.st hp (by rw [List.length_append]; exact hz) (s1.append s3)⟩
end
/-! ### a def with a lambda that may raise -/
section
variable {P : Program} {w : World} {K : PySem.W.Frag} {mg : Str → Option Value} {base : Heap} {G : Bool} {TT : List (Addr × Str)} {x : Str} {st : Stmt} {c : Addr} {N ps : List Str} {k : Nat}
theorem df_okCX {sp : Sp} (F : HasC K mg x st c) (S : FnScope N ps (defScope st)) (len : ∀ vs H Q E, sp vs H Q E → vs.length = ps.length)
    (hb : ∀ (kV doc pm : Value) (an : Option Addr) (cdv ct : Value) (us : List Value), us.length = ps.length → bindArgs (PySem.W.fnOf x x (defArgs st) (defBody st) (defScope st) .none kV doc pm an cdv ct) ⟨us, []⟩ = pure (ps.zip us))
    (body : ∀ (f : Addr) (A : Around) (outer : List Env) (s : Shared) (H : Hp) (vs : List V) (Q : VK) (E : XK), Room k (A.deeper (envOfC x (defScope st) s.heap.objs.size f (.ref c))) → (G = true → A.guards = some []) → sp vs H Q E →
      ∃ t, PSs (cxOf (L2.CX P w) P w K mg base N x (defScope st) f (.ref c) A outer s H E) (defBody st) t ∧ t { nx := fun _ H' => Q .non H', rt := Q } (start N vs) H) : Df P w K mg base G (k + 1) x sp := by
  obtain ⟨f, oc, od, kV, doc, pm, an, ct, osl, lk, hcd, kp, hm⟩ := F.ex
  refine ⟨f, _, ps, ⟨len, fun hr hg e0 b r q => LamX.run_ofS lk hcd S hr e0 b r (len _ _ _ _ q) fun hr' => ?_⟩, hm, kp, .all (hb _ _ _ _ _ _)⟩
  exact body _ _ _ _ _ _ _ _ hr' hg q
theorem dat_okCX {sp : GDSp S} (F : HasC K mg x st c) (hb : ∀ (kV doc pm : Value) (an : Option Addr) (cdv ct : Value) (us : List Value), us.length = ps.length → bindArgs (PySem.W.fnOf x x (defArgs st) (defBody st) (defScope st) .none kV doc pm an cdv ct) ⟨us, []⟩ = pure (ps.zip us)) (S : FnScope N ps (defScope st))
    (body : ∀ (f : Addr) (A : Around) (outer : List Env) (s : Shared) (H : Hp) (E : XK), Room k (A.deeper (envOfC x (defScope st) s.heap.objs.size f (.ref c))) → (G = true → A.guards = some []) →
      ∃ g, PSs (cxOf (L2.CX P w) P w K mg base N x (defScope st) f (.ref c) A outer s H E) (defBody st) (LS K TT E g) ∧ ∀ ds n PP R, sp ds n PP R → ds.length = ps.length ∧ g { nx := fun _ m => PP .non m, rt := PP, ex := R } (dstart N ds) n)
    (hl : ∀ ds n PP R, sp ds n PP R → ds.length = ps.length) : Df P w K mg base G (k + 1) x (LSp K TT sp) := by
  refine df_okCX F S (fun vs H Q E h => ?_) hb (fun f A outer s H vs Q E hr hG h => ?_)
  · obtain ⟨ds, n, PP, R, s, h, _⟩ := h
    rw [s.length]
    exact hl _ _ _ _ h
  · obtain ⟨g, hp, q⟩ := body f A outer s H E hr hG
    obtain ⟨ds, n, PP, R, se, h, kQ, kE, kS⟩ := h
    exact ⟨_, hp, ends_of se (q ds n PP R h).2 kQ kE kS⟩
end
end Aim

namespace Aim
open PySem PySem.Spec PyProof.Rows L2
open LamX (TabB Tabs CodeO)
open Stt (cnt sto)
variable {S : Type} [Stt S]
/-! ### dict(t), t a tuple of pairs -/
section
variable {X : Cx}
theorem prs_of {pins : List (Addr × Obj)} {σ : L2.St} {H : Hp} {s : Shared} (I : Inv X pins σ H s) : ∀ {ps : List Addr} {kvs : List (L2.Key × V)}, Paired (fun p kv => SqT X.K H p [kV kv.1, kv.2]) ps kvs →
    ∃ (prs : List (L2.Key × Value)) (pvs : List (Value × Value)), KV kvs prs ∧ prs.length = ps.length ∧ pvs.length = ps.length ∧ ∀ (j : Nat) (k v : Value), pvs[j]? = some (k, v) → (∃ b, ps[j]? = some b ∧ PairAt s.heap b k v) ∧ ∃ kk, prs[j]? = some (kk, v) ∧ (mixKind X.prog X.w).is kk k = true
  | _, _, .nil => ⟨[], [], .nil, rfl, rfl, fun j k v e => by simp at e⟩
  | _, _, .cons (a := p) (b := kv) h t => by
    obtain ⟨prs, pvs, r, hl, hl2, hp⟩ := prs_of I t
    obtain ⟨its, rv, ht, _⟩ := I.tuple h
    obtain ⟨u, y, ei, ru, ry⟩ := vals2 rv
    subst ei
    refine ⟨(kv.1, y) :: prs, (u, y) :: pvs, .cons ⟨rfl, ry⟩ r, by simp [hl], by simp [hl2], fun j k v e => ?_⟩
    cases j with
    | zero =>
      have e' : (u, y) = (k, v) := Option.some.inj e
      cases e'
      exact ⟨⟨p, rfl, .inl ht⟩, kv.1, rfl, kV_is (P := X.prog) (w := X.w) ru⟩
    | succ j =>
      obtain ⟨⟨b, e1, e2⟩, kk, e3, e4⟩ := hp j k v (by simpa using e)
      exact ⟨⟨b, by simpa using e1, e2⟩, kk, by simpa using e3, e4⟩
def rDictT (K : PySem.W.Frag) : List V → Hp → VK → Prop := fun xs H Q => ∃ (a : Addr) (ps : List Addr) (kvs : List (L2.Key × V)), xs = [.ref a] ∧ SqN K H a (ps.map V.ref) ∧ Paired (fun p kv => SqT K H p [kV kv.1, kv.2]) ps kvs ∧ ∀ p, H p = none → Q (.ref p) (upd H p (.dK (mergeK [] kvs)))
theorem call_dictPT (hcalm : X.calm = true) : CallR X (.type "dict") (rDictT X.K) := by
  intro pins s σ H xs us Q I r q
  obtain ⟨a, ps, kvs, ex, hq, hp, q⟩ := q
  subst ex
  obtain ⟨u, eu, rx⟩ := vals1 r
  subst eu
  cases rx
  obtain ⟨its, rv, pl, hz⟩ := I.tuple hq.sqT
  have ei := refs_at rv
  subst ei
  rw [List.length_map] at hz
  obtain ⟨prs, pvs, rel, hl, hl2, hpr⟩ := prs_of I hp
  obtain ⟨o, ho, hc, n, hdat⟩ := pl
  obtain ⟨o', ho', hd⟩ := (SqN.is I hq).2 a rfl
  rw [ho] at ho'
  cases ho'
  have P := PairArg.tuple (prog := X.prog) (w := X.w) a (ps.map Value.ref).toArray (fun j => (ps[j]?).getD 0) pvs
  refine PySem.call_dict_pairs (knd := mixKind X.prog X.w) (kvs := prs) P (I.ok.hd hcalm) ⟨⟨o, n, ho, hc, hd, hdat⟩, by simp [hl2], fun j k v e => ?_⟩ ⟨by rw [hl, hl2], fun i key v e => ?_⟩ (by rw [hl2]; exact hz) fun h' tk hd' k => ?_
  · obtain ⟨⟨b, e1, e2⟩, _⟩ := hpr j k v e
    refine ⟨by simp [e1], ?_⟩
    show PairAt s.heap ((ps[j]?).getD 0) k v
    rw [e1]
    exact e2
  · exact (hpr i key v e).2
  · have hm : (s.heap.objs.size == sysModules) = false := beq_eq_false_iff_ne.mpr (Nat.ne_of_gt I.big)
    have hlen : (mergeK [] kvs).length ≤ sizeLine := by
      refine Nat.le_trans (length_mergeK kvs []) ?_
      rw [List.length_nil, Nat.zero_add, rel.length, hl]
      exact hz
    exact ⟨.ref s.heap.objs.size, upd H s.heap.objs.size (.dK (mergeK [] kvs)), I.laid (t' := tk) (fun b o e => k b o (by simp) e) (Nat.le_refl _) (show ObjOk X.prog X.w _ _ _ (.dK (mergeK [] kvs)) from ⟨hlen, hm, merged [] prs, KV.merge rel .nil, hd'⟩), rfl, q _ (I.hok.fresh (Nat.le_refl _))⟩
end
/-! ### by data -/
def keyT : L2.Key → Dat
  | .inl i => .int i
  | .inr x => .str x
/-- the value at a key -/
def valD (ks : List L2.Key) (xs : List Dat) (k : L2.Key) : Option Dat := ((ks.zip xs).find? fun p => decide (p.1 = k)).map (·.2)
def gDictT : GA
  | [.tup ds], P => ∃ (ks : List L2.Key) (xs : List Dat), ks.length = xs.length ∧ ks.Nodup ∧ ds = (ks.zip xs).map (fun p => Dat.tup [keyT p.1, p.2]) ∧ P (.dct ks xs)
  | _, _ => False
theorem sees_key {K : PySem.W.Frag} {n : S} {H : Hp} {v : V} : ∀ {k : L2.Key}, Sees K n H v (keyT k) → v = kV k
  | .inl _, h => h.int_iff
  | .inr _, h => h.str_iff.1
theorem pairs_sees {K : PySem.W.Frag} {n : S} {H : Hp} : ∀ {ks : List L2.Key} {xs : List Dat} {vs : List V}, ks.length = xs.length → SeesL K n H vs ((ks.zip xs).map fun p => Dat.tup [keyT p.1, p.2]) →
    ∃ (ps : List Addr) (us : List V), vs = ps.map V.ref ∧ ks.length = us.length ∧ Paired (fun p kv => SqT K H p [kV kv.1, kv.2]) ps (ks.zip us) ∧ SeesL K n H us xs
  | [], [], _, _, .nil => ⟨[], [], rfl, rfl, .nil, .nil⟩
  | k :: ks, x :: xs, _, l, .cons h t => by
    obtain ⟨ps, us, e, l2, p, s⟩ := pairs_sees (ks := ks) (xs := xs) (Nat.succ.inj l) t
    obtain ⟨a, ys, rfl, hq, _, sy⟩ := h.tup_iff
    obtain ⟨v1, v2, rfl, w1, w2⟩ := sy.two
    have := sees_key w1
    subst this
    exact ⟨a :: ps, v2 :: us, by rw [e]; rfl, by simp [l2], .cons hq p, .cons w2 s⟩
theorem mergeK_new : ∀ {more acc : List (L2.Key × V)}, ((acc ++ more).map (·.1)).Nodup → mergeK acc more = acc ++ more
  | [], acc, _ => by simp [mergeK]
  | p :: more, acc, nd => by
    have hp : valV acc p.1 = none := by
      unfold valV
      rw [List.find?_eq_none.mpr]
      · rfl
      intro q hq z
      have e : q.1 = p.1 := of_decide_eq_true z
      rw [List.map_append, List.nodup_append] at nd
      exact nd.2.2 q.1 (List.mem_map.mpr ⟨q, hq, rfl⟩) p.1 (by simp) e
    show mergeK (putK acc p.1 p.2) more = _
    rw [putK_new p.2 hp, mergeK_new (by rw [List.append_assoc]; exact nd), List.append_assoc]
    rfl
theorem cd_dictT {K : PySem.W.Frag} : CallD K (rDictT K) gDictT := fun n vs ds H Q P g s k => by
  unfold gDictT at g
  split at g
  · obtain ⟨v, rfl, w⟩ := s.one
    obtain ⟨ks, xs, l, nd, rfl, p⟩ := g
    obtain ⟨a, ys, rfl, hq, _, sy⟩ := w.tup_iffN
    obtain ⟨ps, us, rfl, l2, pr, su⟩ := pairs_sees l sy
    have fst : (ks.zip us).map (·.1) = ks := List.map_fst_zip (Nat.le_of_eq l2)
    refine ⟨a, ps, ks.zip us, rfl, hq, pr, fun p' hp => ?_⟩
    rw [mergeK_new (acc := []) (by rw [List.nil_append, fst]; exact nd), List.nil_append]
    exact k _ _ _ p (.new hp) (.dct (.inl upd_same) l2 (su.grow (.new hp)))
  · exact g.elim
theorem val_sees {K : PySem.W.Frag} {n : S} {H : Hp} {k : L2.Key} : ∀ {ks : List L2.Key} {us : List V} {xs : List Dat}, ks.length = us.length → SeesL K n H us xs → (valV (ks.zip us) k = none ∧ valD ks xs k = none) ∨ ∃ v d, valV (ks.zip us) k = some v ∧ valD ks xs k = some d ∧ Sees K n H v d
  | [], _, _, _, _ => .inl ⟨rfl, rfl⟩
  | _ :: _, [], _, l, _ => by cases l
  | j :: ks, u :: us, x :: xs, l, .cons h t => by
    by_cases e : j = k
    · refine .inr ⟨u, x, ?_, ?_, h⟩
      · show valV ((j, u) :: ks.zip us) k = _
        rw [valV_pos e]
      · unfold valD
        simp [List.find?_cons, e]
    · rcases val_sees (ks := ks) (k := k) (Nat.succ.inj l) t with ⟨h1, h2⟩ | ⟨v, d, h1, h2, h3⟩
      · refine .inl ⟨?_, ?_⟩
        · show valV ((j, u) :: ks.zip us) k = _
          rw [valV_neg e, h1]
        · unfold valD at h2 ⊢
          simpa [List.find?_cons, e] using h2
      · refine .inr ⟨v, d, ?_, ?_, h3⟩
        · show valV ((j, u) :: ks.zip us) k = _
          rw [valV_neg e, h1]
        · unfold valD at h2 ⊢
          simpa [List.find?_cons, e] using h2
def dctOf : Dat → (List L2.Key → List Dat → Prop) → Prop
  | .dct ks xs, P => P ks xs
  | _, _ => False
theorem dctOf_of {d : Dat} {P : List L2.Key → List Dat → Prop} (h : dctOf d P) : ∃ ks xs, d = .dct ks xs ∧ P ks xs := by
  cases d with
  | dct ks xs => exact ⟨ks, xs, rfl, h⟩
  | _ => exact h.elim
def keyOf : Dat → (L2.Key → Prop) → Prop
  | .int i, P => P (.inl i)
  | .str x, P => P (.inr x)
  | _, _ => False
theorem keyOf_of {d : Dat} {P : L2.Key → Prop} (h : keyOf d P) : ∃ k, d = keyT k ∧ P k := by
  cases d with
  | int i => exact ⟨.inl i, rfl, h⟩
  | str x => exact ⟨.inr x, rfl, h⟩
  | _ => exact h.elim
section
variable {X : Cx} {TT : List (Addr × Str)} {E : XK} {fo fk fd : GDE S} {o e f : Expr} {apos cpos pos : Pos}
/-- d.get(k, x) -/
def dGet2 (fo fk fd : GDE S) : GDE S := fun ρ n P R => fo ρ n (fun o m => dctOf o fun ks xs => fk ρ m (fun k j => keyOf k fun kk => fd ρ j (fun d i => P ((valD ks xs kk).getD d) i) R) R) R
theorem de_get2 (hu : X.A.units + 1 < cLine) (ho : PE X o (LE X.K TT E fo)) (he : PE X e (LE X.K TT E fk)) (hf : PE X f (LE X.K TT E fd)) (m : M2 X o "get" apos e f cpos := by exact ⟨rfl, rfl, rfl, rfl⟩) : PE X (.Call (.Attribute o "get" apos) [e, f] [] cpos) (LE X.K TT E (dGet2 fo fk fd)) := (pe_dget2 hu ho he hf m).imp fun σ H Q ⟨ρ, n, P, R, rl, q, k, x⟩ => by
  refine ⟨ρ, n, _, R, rl, q, fun d m v H1 z e1 s1 => ?_, x⟩
  obtain ⟨ks, xs, rfl, z⟩ := dctOf_of z
  cases s1 with
  | dct rd l sx =>
    rename_i a us
    refine ⟨a, rfl, .inl ⟨_, rd⟩, ρ, m, _, R, rl.fre e1, z, fun d2 m2 v2 H2 z2 e2 s2 => ?_, x.mono e1⟩
    obtain ⟨kk, rfl, z2'⟩ := keyOf_of z2
    refine ⟨ρ, m2, _, R, (rl.fre e1).fre e2, z2', fun d3 m3 v3 H3 z3 e3 s3 => ?_, (x.mono e1).mono e2⟩
    have e12 := e2.trans e3
    have sx3 := sx.mono e12.toFra
    have rd3 : Rd H3 a (.dK (ks.zip us)) := e12.toFrb.rd rd (fun _ z => nomatch z) fun _ z => nomatch z
    have := sees_key s2
    subst this
    refine ⟨valV (ks.zip us) kk, .inl ⟨_, kk, rd3, rfl, rfl⟩, ?_⟩
    rcases val_sees (k := kk) l sx3 with ⟨h1, h2⟩ | ⟨v, d, h1, h2, h3⟩
    · rw [h1]
      rw [h2] at z3
      exact k _ m3 _ H3 z3 ((e1.trans e2).trans e3) s3
    · rw [h1]
      rw [h2] at z3
      exact k _ m3 _ H3 z3 ((e1.trans e2).trans e3) h3
/-- k in d -/
def dInD (neg : Bool) (fk fo : GDE S) : GDE S := fun ρ n P R => fk ρ n (fun k m => keyOf k fun kk => fo ρ m (fun o j => dctOf o fun ks xs => P (.bl (neg ^^ (valD ks xs kk).isSome)) j) R) R
theorem LE.inD {σ : L2.St} {H : Hp} {Q : VK} (h : LE X.K TT E (dInD false fk fo) σ H Q) : tDIn (LE X.K TT E fk) (LE X.K TT E fo) σ H Q := by
  obtain ⟨ρ, n, P, R, rl, q, k, x⟩ := h
  refine ⟨ρ, n, _, R, rl, q, fun d m v H1 z e1 s1 => ?_, x⟩
  obtain ⟨kk, rfl, z'⟩ := keyOf_of z
  refine ⟨ρ, m, _, R, rl.fre e1, z', fun d2 m2 v2 H2 z2 e2 s2 => ?_, x.mono e1⟩
  obtain ⟨ks, xs, rfl, z2⟩ := dctOf_of z2
  have := sees_key s1
  subst this
  cases s2 with
  | dct rd l sx =>
    rename_i a us
    refine ⟨a, valV (ks.zip us) kk, rfl, .inl ⟨_, kk, rd, rfl, rfl⟩, ?_⟩
    have eq : (valV (ks.zip us) kk).isSome = (valD ks xs kk).isSome := by
      rcases val_sees (k := kk) l sx with ⟨h1, h2⟩ | ⟨v, d, h1, h2, _⟩
      · rw [h1, h2]; rfl
      · rw [h1, h2]; rfl
    rw [eq]
    have z3 := k _ m2 (.bl (false ^^ (valD ks xs kk).isSome)) H2 z2 (e1.trans e2) (.bl _)
    rw [Bool.false_xor] at z3
    exact z3
theorem de_inD (hu : X.A.units + 1 < cLine) (he : PE X e (LE X.K TT E fk)) (ho : PE X o (LE X.K TT E fo)) (hm : behindInMarks .In o = false := by rfl) : PE X (.Compare e [.In] [o] pos) (LE X.K TT E (dInD false fk fo)) := (pe_cmp (pc_din hu he ho) hm).imp fun _ _ _ h => h.inD
theorem dt_inD (hu : X.A.units + 1 < cLine) (he : PE X e (LE X.K TT E fk)) (ho : PE X o (LE X.K TT E fo)) (hm : behindInMarks .In o = false := by rfl) : PT X (.Compare e [.In] [o] pos) (LTs X.K TT E (dTst (dInD false fk fo))) := (pt_cmp (pc_din hu he ho) hm).imp fun _ _ _ h => by
  have q := h.tst
  exact q.inD
/-- d[k], there -/
def dIxD (fo fk : GDE S) : GDE S := fun ρ n P R => fo ρ n (fun o m => dctOf o fun ks xs => fk ρ m (fun k j => keyOf k fun kk => optD (valD ks xs kk) fun d => P d j) R) R
theorem de_ixD (hu : X.A.units + 1 < cLine) (ho : PE X o (LE X.K TT E fo)) (hi : PE X e (LE X.K TT E fk)) (hs : NoSl e) : PE X (.Subscript o e pos) (LE X.K TT E (dIxD fo fk)) := (pe_dget hu ho hi hs).imp fun σ H Q ⟨ρ, n, P, R, rl, q, k, x⟩ => by
  refine ⟨ρ, n, _, R, rl, q, fun d m v H1 z e1 s1 => ?_, x⟩
  obtain ⟨ks, xs, rfl, z⟩ := dctOf_of z
  refine ⟨ρ, m, _, R, rl.fre e1, z, fun d2 m2 v2 H2 z2 e2 s2 => ?_, x.mono e1⟩
  obtain ⟨kk, rfl, z2'⟩ := keyOf_of z2
  obtain ⟨d, hd, z3⟩ := optD_of z2'
  have s1 := s1.mono e2.toFra
  have := sees_key s2
  subst this
  cases s1 with
  | dct rd l sx =>
    rcases val_sees (k := kk) l sx with ⟨h1, h2⟩ | ⟨v, d', h1, h2, h3⟩
    · rw [h2] at hd
      cases hd
    · rw [h2] at hd
      cases hd
      exact ⟨_, v, rfl, .inl ⟨_, kk, rd, rfl, h1.symm⟩, k _ m2 v H2 z3 (e1.trans e2) h3⟩
end
/-! ### a property by its getter's promise -/
section
variable {X : Cx} {k : Nat} {C p g a dx : Addr} {fs : List (Str × V)} {f : Str} {sp : Sp} {E : XK} {e : Expr} {pos : Pos} {ta : TE}
theorem getprop_R {pins : List (Addr × Obj)} {σ : L2.St} {H : Hp} {s : Shared} {Q : VK} {b : Bool} {E' : Value → Shared → Prop} (I : Inv X pins σ H s) (ea : H a = some (.ins C dx fs)) (c : Cls X.K C) (hp : PropOf X.K C f p g)
    (F : FnR X.prog X.w X.K X.mg X.base (L2.CX X.prog X.w) k g sp) (hr : Room (k + 1) X.A) (hx : Passes (L2.CX X.prog X.w) X.nox E) (h : sp [.ref a] H Q E) :
    wpAny (model X.prog X.w) X.A (getAttr (.ref a) f b) (EP X pins σ Q) E' s := by
  obtain ⟨mA, O, _, _, _, _⟩ := ins_get I.hok ea
  obtain ⟨od, J, _⟩ := O.look
  obtain ⟨rest, hrec⟩ := hp.rec_
  have I1 := I.tok (s.toks + 1)
  have hc : (PySem.W.clsIn X.K C).isSome = true := by
    obtain ⟨cd, hc, _⟩ := PySem.W.any_some c.hd
    rw [hc]
    rfl
  refine PySem.W.get_bind I.kIn J (PySem.W.plainGet_of (c.get f)).1 (PySem.W.findObj_data hc hp.at_ hp.get hp.tak) (PySem.W.plainGet_of (c.get f)).2 (wpAny_call (PySem.W.prop_get (s := { s with toks := s.toks + 1 }) I.kIn hrec ?_))
  refine codeAny_mono (F X.A.in1 X.stack { s with toks := s.toks + 1 } H [.ref a] [.ref a] Q E hr.in1 I1.env0.in1 (.cons rfl .nil) h) fun r s' hq => ?_
  cases r with
  | error er => exact False.elim (hx pins σ H { s with toks := s.toks + 1 } er s' (I1.wish _) hq)
  | ok fl =>
    cases fl with
    | ret u =>
      obtain ⟨v, H', I3, rv, q3⟩ := I1.after hq
      show wpAny _ _ (handedOut u) _ _ _
      rw [PySem.W.handedOut_of (handed_of rv)]
      exact wpAny_pure ⟨v, H', I3, rv, q3⟩
    | next => exact False.elim hq
    | brk => exact False.elim hq
    | cont => exact False.elim hq
theorem pe_propR (he : PE X e ta) (c : Cls X.K C) (hp : PropOf X.K C f p g) (F : FnR X.prog X.w X.K X.mg X.base (L2.CX X.prog X.w) k g sp) (hr : Room (k + 1) X.A) (hx : Passes (L2.CX X.prog X.w) X.nox E)
    (hab : attributeBase e f X.env (eval e X.env) = eval e X.env) : PE X (.Attribute e f pos) (tProp C sp [] E ta) := by
  refine ⟨fun pins s σ H Q I h => ?_⟩
  refine attr_of hab (thn (he.run pins s σ H _ I h) fun u s1 ⟨x, H1, I1, rx, a, dx, fs, ex, ea, q⟩ => ?_)
  subst ex
  obtain rfl : u = Value.ref a := rx
  exact getprop_R I1 ea c hp F hr hx q
end
/-- a property of the class at C, by data -/
structure PpD (P : Program) (w : World) (K : PySem.W.Frag) (mg : Str → Option Value) (base : Heap) (TT : List (Addr × Str)) (k : Nat) (C : Addr) (nm : Str) (sp : GDSp S) : Prop where
  ex : ∃ p g : Addr, PropOf K C nm p g ∧ FnR P w K mg base (L2.CX P w) k g (spO (LSp K TT sp))
section
variable {X : Cx} {TT : List (Addr × Str)} {E : XK} {C : Addr} {nm : Str} {e : Expr} {pos : Pos} {k j : Nat} {sp : GDSp S} {fe : GDE S}
def dProp (C : Addr) (sp : GDSp S) (f : GDE S) : GDE S := fun ρ n P R => f ρ n (fun d m => isObj C d ∧ sp [d] m P R0) R
theorem de_propD (d : PpD X.prog X.w X.K X.mg X.base TT k C nm sp) (c : Cls X.K C) (hr : Room j X.A) (hk : k + 1 ≤ j) (he : PE X e (LE X.K TT E fe)) (hab : attributeBase e nm X.env (eval e X.env) = eval e X.env := by rfl) : PE X (.Attribute e nm pos) (LE X.K TT E (dProp C sp fe)) := by
  obtain ⟨p, g, hp, F⟩ := d.ex
  refine (pe_propR (E := E0) he c hp F (hr.mono hk) (fun _ _ _ _ _ _ _ h => (passL (X := X.nox)) _ _ _ _ _ _ (by assumption) h) hab).imp fun σ H Q ⟨ρ, n, P, R, rl, q, kk, x⟩ => ⟨ρ, n, _, R, rl, q, fun d m v H1 z e1 s1 => ?_, x⟩
  obtain ⟨a, dx, fs, rfl, ha⟩ := isObj_at z.1 s1
  refine ⟨a, dx, fs, rfl, ha, ?_⟩
  exact spO_go (E := E0) (X := X) (TT := TT) (.zero x.tab) rl.st e1 (.cons s1 .nil) z.2 kk
end
end Aim

namespace Aim
open PySem PySem.Spec PyProof.Rows L2
open LamX (TabB Tabs CodeO)
open Stt (cnt sto)
variable {S : Type} [Stt S]
/-! ### making an instance: defaults, keywords -/
section
variable {X : Cx} {TT : List (Addr × Str)} {E : XK} {k j : Nat} {C : Addr} {x : Str} {sp : GDSp S} {e : Expr} {es : List Expr} {fr : GDA S} {p pos : Pos}
theorem run_makeB {pins : List (Addr × Obj)} {σ : L2.St} {H : Hp} {s : Shared} {Q : VK} {us0 us : List Value} {kw : List (Str × Value)} {vs : List V} {f : Addr} {fd : FuncData} {ps : List Str} (M : Mk X.K C f) (F : Rn X.prog X.w X.K X.mg X.base false k f fd ps (LSpI X.K TT C sp)) (hr : Room (k + 1) X.A) (hb : ∀ (s : Shared) (x : Addr), X.K.In s.heap → BindsTo s fd ⟨.ref x :: us0, kw⟩ (ps.zip (Value.ref x :: us)))
    (hx : Passes (L2.CX X.prog X.w) X E) (I : Inv X pins σ H s) (r : Vals vs us) {ds : List Dat} {n : S} {PP : Dat → S → Prop} {R : GRX S} (se : SeesL X.K n H vs ds) (q : sp ds n PP R) (kQ : ∀ d m v H', PP d m → Fre X.K TT n H m H' → Sees X.K m H' v d → Q v H') (kE : ExE X.K TT E n H R) (kS : StoOk X.K n H) :
    wpAny (model X.prog X.w) X.A (call (.ref C) us0 kw) (EP X pins σ Q) X.xe s := by
  have h0 : H (s.heap.objs.size + 1) = none := I.hok.fresh (Nat.le_succ _)
  have h1 : H s.heap.objs.size = none := I.hok.fresh (Nat.le_refl _)
  have ne : s.heap.objs.size ≠ s.heap.objs.size + 1 := Nat.ne_of_lt (Nat.lt_succ_self _)
  have I2 := Inv.made (C := C) I
  have prv : ∀ b, Prv n H b → Prv n (upd (upd H s.heap.objs.size (.own (s.heap.objs.size + 1))) (s.heap.objs.size + 1) (.ins C s.heap.objs.size [])) b := fun b ⟨⟨sh, xs, e⟩, es⟩ => ⟨⟨sh, xs, by
    rw [upd_ne (fun z => by rw [z, h0] at e; cases e), upd_ne (fun z => by rw [z, h1] at e; cases e)]
    exact e⟩, es⟩
  have same : ∀ G : Hp, (∀ b, Prv n H b → G b = none) → glueO n (upd (upd H s.heap.objs.size (.own (s.heap.objs.size + 1))) (s.heap.objs.size + 1) (.ins C s.heap.objs.size [])) G = glueO n H G := fun G _ => by
    funext b
    by_cases pb : Prv n H b
    · rw [glueO_in pb, glueO_in (prv b pb)]
      obtain ⟨⟨sh, xs, e⟩, _⟩ := pb
      rw [upd_ne (fun z => by rw [z, h0] at e; cases e), upd_ne (fun z => by rw [z, h1] at e; cases e)]
    · rw [glueO_out pb, glueO_out]
      rintro ⟨⟨sh, xs, e⟩, es⟩
      by_cases b1 : b = s.heap.objs.size + 1
      · rw [b1, upd_same] at e
        cases e
      · rw [upd_ne b1] at e
        by_cases b2 : b = s.heap.objs.size
        · rw [b2, upd_same] at e
          cases e
        · rw [upd_ne b2] at e
          exact pb ⟨⟨sh, xs, e⟩, es⟩
  have hq : LSpI X.K TT C sp (.ref (s.heap.objs.size + 1) :: vs) (cutO n (upd (upd H s.heap.objs.size (.own (s.heap.objs.size + 1))) (s.heap.objs.size + 1) (.ins C s.heap.objs.size []))) (fun v G => (∀ b, Prv n (upd (upd H s.heap.objs.size (.own (s.heap.objs.size + 1))) (s.heap.objs.size + 1) (.ins C s.heap.objs.size [])) b → G b = none) → v = .non ∧ Q (.ref (s.heap.objs.size + 1)) (glueO n (upd (upd H s.heap.objs.size (.own (s.heap.objs.size + 1))) (s.heap.objs.size + 1) (.ins C s.heap.objs.size [])) G)) (fun c d G => (∀ b, Prv n (upd (upd H s.heap.objs.size (.own (s.heap.objs.size + 1))) (s.heap.objs.size + 1) (.ins C s.heap.objs.size [])) b → G b = none) → E c d (glueO n (upd (upd H s.heap.objs.size (.own (s.heap.objs.size + 1))) (s.heap.objs.size + 1) (.ins C s.heap.objs.size [])) G)) := by
    have ec := cutO_made (n := n) (C := C) h0 h1
    rw [ec]
    refine ⟨_, _, vs, cutO n H, ds, n, PP, R, rfl, cutO_none h0, cutO_none h1, ne, rfl, se.mono (TT := TT) Fra.cut, q, fun d m G p g t gone => ⟨rfl, by
      have gone' : ∀ b, Prv n H b → G b = none := fun b pb => gone b (prv b pb)
      rw [same G gone']
      exact kQ d m _ _ p (.glue g kS gone') (t.grow (grow_glue gone'))⟩, ⟨(Fra.cut (K := X.K) (n := n)).tab kE.tab, fun C d m dd v G p g hd t gone => ?_⟩, (Fra.cut (TT := TT)).st kS⟩
    have gone' : ∀ b, Prv n H b → G b = none := fun b pb => gone b (prv b pb)
    rw [same G gone']
    exact kE.ex C d m dd v _ p (Fre.glue g kS gone') (grow_glue gone' _ _ hd) (t.grow (grow_glue gone'))
  have r2 : Vals (V.ref (s.heap.objs.size + 1) :: vs) (Value.ref (s.heap.objs.size + 1) :: us) := .cons rfl r
  have hb2 := hb { s with heap := (s.heap.push PySem.W.emptyDict).push (PySem.W.instObj C s.heap.objs.size) } (s.heap.objs.size + 1) I2.kIn
  refine wpAny_call (make_map (f := f) I.kIn M.makes M.init (beq_iff_eq.mp M.fn) (codeAny_mono (F.run (args := ⟨Value.ref (s.heap.objs.size + 1) :: us0, kw⟩) (hr.make C us0 kw) (fun z => nomatch z) ((env0_cutO I2.env0).make C us0 kw) hb2 r2 hq) fun y s' hq' => ?_))
  match y, hq' with
  | .error e, hq' => exact hx pins σ _ _ e s' I2 (cx_glueO I2.hok I2.env0.frf hq')
  | .ok (.ret u), hq' =>
    obtain ⟨v, H', I3, rv, ev, q3⟩ := I2.after (ce_glueO (Q := fun v H' => v = .non ∧ Q (.ref (s.heap.objs.size + 1)) H') I2.hok I2.env0.frf hq')
    subst ev
    exact ⟨rv, ⟨V.ref (s.heap.objs.size + 1), H', I3, rfl, q3⟩⟩

/-- a class made by n values and keywords ks; gD: the parameters' data out of these -/
structure DfK' (P : Program) (w : World) (K : PySem.W.Frag) (mg : Str → Option Value) (base : Heap) (TT : List (Addr × Str)) (k : Nat) (C : Addr) (n : Nat) (ks : List Str) (gD : List Dat → List Dat → List Dat) (sp : GDSp S) : Prop where
  ex : ∃ (f : Addr) (fd : FuncData) (ps : List Str) (g : List Value → List Value → List Value) (gV : List V → List V → List V), Rn P w K mg base false k f fd ps (LSpI K TT C sp) ∧ Mk K C f ∧
    (∀ (s : Shared) (x : Addr) (us ws : List Value), K.In s.heap → us.length = n → ws.length = ks.length → BindsTo s fd ⟨.ref x :: us, ks.zip ws⟩ (ps.zip (Value.ref x :: g us ws))) ∧
    (∀ {vs : List V} {us : List Value} {zs : List V} {ws : List Value}, Vals vs us → Vals zs ws → vs.length = n → zs.length = ks.length → Vals (gV vs zs) (g us ws)) ∧
    ∀ (m : S) (H : Hp) (vs zs : List V) (ds es : List Dat), SeesL K m H vs ds → SeesL K m H zs es → ds.length = n → es.length = ks.length → SeesL K m H (gV vs zs) (gD ds es)
/-- C(e, ..), the rest by default -/
def dMakeD (n : Nat) (gD : List Dat → List Dat → List Dat) (sp : GDSp S) (fr : GDA S) : GDE S := fun ρ s P R => fr ρ s (fun ds m => ds.length = n ∧ sp (gD ds []) m P R) R
theorem de_makeD {n : Nat} {gD : List Dat → List Dat → List Dat} (d : DfK' X.prog X.w X.K X.mg X.base TT k C n [] gD sp) (hr : Room j X.A) (hk : k + 1 ≤ j) (gl : Gl X x) (hm : X.mg x = some (.ref C)) (hx : Passes (L2.CX X.prog X.w) X E) (ha : PA X (e :: es) (LA X.K TT E fr))
    (hdb : (x == ("__debug__" : Str)) = false := by decide) (he : starEach (e :: es) X.env = (false, eval e X.env) :: starEach es X.env := by rfl) (hpl : (backTo pos (starEach es X.env)).any (·.1) = false := by rfl) :
    PE X (.Call (.Name x p) (e :: es) [] pos) (LE (S := S) X.K TT E (dMakeD n gD sp fr)) := by
  obtain ⟨f, fd, ps, g, gV, F, M, hb, hv, hs⟩ := d.ex
  refine ⟨fun pins s σ H Q I h => wpAny_Call_Name_kw (ld_glob I gl hm ?_ hdb)⟩
  obtain ⟨ρ, n', P, R, rl, q, kQ, kE⟩ := h
  refine PySem.W.callWith_K (h₀ := X.base) I.ok.mod.kin M.kp (thn (ha.run pos pins s σ H (fun vs H1 => ∃ ds m, SeesL X.K m H1 vs ds ∧ (ds.length = n ∧ sp (gD ds []) m P R) ∧ Fre X.K TT n' H m H1) I ⟨ρ, n', _, R, rl, q, fun ds m vs H1 z e s => ⟨ds, m, s, z, e⟩, kE⟩) fun us s1 ⟨vs, H1, I1, r, ds, m, se, z, e⟩ => ⟨I1.kIn, ?_⟩) he hpl
  have lu : us.length = n := by rw [← r.length, se.length]; exact z.1
  exact run_makeB (kw := []) M F (hr.mono hk) (fun s x X' => hb s x us [] X' lu rfl) hx I1 (hv r .nil (by rw [se.length]; exact z.1) rfl) (hs m H1 vs [] ds [] se .nil z.1 rfl) z.2 (fun d i v H' y g t => kQ d i v H' y (e.trans g) t) (kE.mono e) (e.st rl.st)
/-- C(k = e, ..) -/
def dMakeK (gD : List Dat → List Dat → List Dat) (m : Nat) (sp : GDSp S) (fr : GDA S) : GDE S := fun ρ s P R => fr ρ s (fun ds i => ds.length = m ∧ sp (gD [] ds) i P R) R
theorem de_makeK {ks : List Str} {kws : List Keyword} {gD : List Dat → List Dat → List Dat} (d : DfK' X.prog X.w X.K X.mg X.base TT k C 0 ks gD sp) (hr : Room j X.A) (hk : k + 1 ≤ j) (gl : Gl X x) (hm : X.mg x = some (.ref C)) (hx : Passes (L2.CX X.prog X.w) X E) (hkw : PK X kws (LA X.K TT E fr))
    (hall : (backToKw pos (keywordEach kws X.env)).all (·.1.isSome) = true := by rfl) (hks : (backToKw pos (keywordEach kws X.env)).filterMap (·.1) = ks := by rfl) (hdb : (x == ("__debug__" : Str)) = false := by decide)
    (hpl : ((backTo pos (starEach [] X.env)).any (·.1) || (backToKw pos (keywordEach kws X.env)).any (·.1.isNone)) = false := by rfl) :
    PE X (.Call (.Name x p) [] kws pos) (LE (S := S) X.K TT E (dMakeK gD ks.length sp fr)) := by
  obtain ⟨f, fd, ps, g, gV, F, M, hb, hv, hs⟩ := d.ex
  refine ⟨fun pins s σ H Q I h => wpAny_Call_Name_kw (ld_glob I gl hm ?_ hdb)⟩
  obtain ⟨ρ, n', P, R, rl, q, kQ, kE⟩ := h
  refine PySem.W.callWith_KW0 (h₀ := X.base) I.ok.mod.kin M.kp hall ?_ hpl
  refine thn (hkw.run pos pins s σ H (fun vs H1 => ∃ ds m, SeesL X.K m H1 vs ds ∧ (ds.length = ks.length ∧ sp (gD [] ds) m P R) ∧ Fre X.K TT n' H m H1) I ⟨ρ, n', _, R, rl, q, fun ds m vs H1 z e s => ⟨ds, m, s, z, e⟩, kE⟩) fun ws s1 ⟨zs, H1, I1, rz, ds, m, se, z, e⟩ => ⟨I1.kIn, ?_⟩
  rw [hks]
  have lw : ws.length = ks.length := by rw [← rz.length, se.length]; exact z.1
  exact run_makeB (us0 := []) (kw := ks.zip ws) M F (hr.mono hk) (fun s x X' => hb s x [] ws X' rfl lw) hx I1 (hv .nil rz rfl (by rw [se.length]; exact z.1)) (hs m H1 [] zs [] ds .nil se rfl z.1) z.2 (fun d i v H' y g t => kQ d i v H' y (e.trans g) t) (kE.mono e) (e.st rl.st)
end
/-! ### an __init__ with defaults -/
section
variable {P : Program} {w : World} {K : PySem.W.Frag} {mg : Str → Option Value} {base : Heap} {TT : List (Addr × Str)} {k : Nat} {sp : GDSp S} {N ps : List Str} {st : Stmt} {qual : Str} {C : Addr} {dvs : List V}
structure MkHD (K : PySem.W.Frag) (C : Addr) (qual : Str) (st : Stmt) (dvs : List V) : Prop where
  ex : ∃ (f : Addr) (fd : FuncData), FunD K "__init__" qual (defArgs st) (defBody st) (defScope st) dvs [] f fd ∧ Mk K C f
structure MadeD (P : Program) (w : World) (K : PySem.W.Frag) (mg : Str → Option Value) (base : Heap) (TT : List (Addr × Str)) (k : Nat) (C : Addr) (qual : Str) (st : Stmt) (dvs : List V) (ps : List Str) (sp : GDSp S) : Prop where
  ex : ∃ (f : Addr) (fd : FuncData), FunD K "__init__" qual (defArgs st) (defBody st) (defScope st) dvs [] f fd ∧ Mk K C f ∧ Rn P w K mg base false k f fd ps (LSpI K TT C sp)
theorem inid_ok (F : MkHD K C qual st dvs) (Sc : FnScope N ps (defScope st)) (hN : 0 < N.length)
    (body : ∀ (f : Addr) (cdv : Value) (A : Around) (outer : List Env) (s : Shared) (H : Hp) (E : XK), Room k (A.deeper (envOfC qual (defScope st) s.heap.objs.size f cdv)) →
      ∃ g, PSs (cxOf (L2.CX P w) P w K mg base N qual (defScope st) f cdv A outer s H E) (defBody st) (LS K TT E g) ∧ ∀ x ds n PP R, sp ds n PP R → g { nx := fun ρ' m => insOf (slAt ρ' 0) fun a C' ks es => a = x ∧ C' = C ∧ PP (.obj C ks es) m, rt := fun _ _ => False, ex := R } ((dstart N (.non :: ds)).set 0 (.ins x C [] [])) n)
    (hl : ∀ ds n PP R, sp ds n PP R → ds.length + 1 = ps.length) : MadeD P w K mg base TT (k + 1) C qual st dvs ps sp := by
  obtain ⟨f, fd, F, M⟩ := F.ex
  obtain ⟨oc, od, dV, kV, doc, pm, an, cdv, ct, osl, e, lk, hcd, _, _⟩ := id F.ex
  subst e
  exact ⟨f, _, F, M, rn_init lk hcd Sc hN (fun A outer s H E hr => body f cdv A outer s H E hr) hl⟩
/-- n values written, the defaults behind the first j fill up -/
theorem MadeD.pos {dds : List Dat} (d : MadeD P w K mg base TT k C qual st dvs ps sp) (n j : Nat) (hd : dvs ≠ []) (hn : n + 1 + (dvs.length - j) = ps.length) (hs : ∀ (m : S) (H : Hp), SeesL K m H dvs dds)
    (h : ∀ (T : Addr) (kV doc pm : Value) (an : Option Addr) (cdv ct : Value) (us its : List Value), us.length = n + 1 → its.length = dvs.length →
      ∃ k, bindArgs (PySem.W.fnOf "__init__" qual (defArgs st) (defBody st) (defScope st) (.ref T) kV doc pm an cdv ct) ⟨us, []⟩ = seqItems? (.ref T) >>= k ∧ k (some its.toArray) = pure (ps.zip (us ++ its.drop j))) : DfK' P w K mg base TT k C n [] (fun ds _ => ds ++ dds.drop j) sp := by
  obtain ⟨f, fd, F, M, R⟩ := d.ex
  obtain ⟨ds, rv, B⟩ := F.binds1 (n + 1) j hd hn h
  have lds : ds.length = dvs.length - j := by rw [← rv.length, List.length_drop]
  refine ⟨f, fd, ps, fun us _ => us ++ ds, fun vs _ => vs ++ dvs.drop j, R, M, fun s x us ws X lu lw => ?_, fun r _ _ _ => r.append rv, fun m H vs zs es es' s1 _ _ _ => s1.append ((hs m H).drop j)⟩
  exact B s (.ref x :: us) X (by rw [List.length_append, List.length_cons, lu, lds]; exact hn)
end
end Aim

namespace Aim
open PySem PySem.Spec PyProof.Rows L2
open LamX (TabB Tabs CodeO)
open Stt (cnt sto)
variable {S : Type} [Stt S]
/-! ### C(e, .., k = e, ..) -/
section
variable {X : Cx} {TT : List (Addr × Str)} {E : XK} {k j : Nat} {C : Addr} {x : Str} {sp : GDSp S} {e : Expr} {es : List Expr} {fr fk : GDA S} {p pos : Pos}
def dMakeP (n m : Nat) (gD : List Dat → List Dat → List Dat) (sp : GDSp S) (fr fk : GDA S) : GDE S := fun ρ s P R => fr ρ s (fun ds i => fk ρ i (fun es j => (ds.length = n ∧ es.length = m) ∧ sp (gD ds es) j P R) R) R
theorem de_makeP {n : Nat} {ks : List Str} {kws : List Keyword} {gD : List Dat → List Dat → List Dat} (d : DfK' X.prog X.w X.K X.mg X.base TT k C n ks gD sp) (hr : Room j X.A) (hk : k + 1 ≤ j) (gl : Gl X x) (hm : X.mg x = some (.ref C)) (hx : Passes (L2.CX X.prog X.w) X E) (ha : PA X (e :: es) (LA X.K TT E fr)) (hkw : PK X kws (LA X.K TT E fk))
    (hall : (backToKw pos (keywordEach kws X.env)).all (·.1.isSome) = true := by rfl) (hks : (backToKw pos (keywordEach kws X.env)).filterMap (·.1) = ks := by rfl) (hdb : (x == ("__debug__" : Str)) = false := by decide)
    (he : starEach (e :: es) X.env = (false, eval e X.env) :: starEach es X.env := by rfl) (hpl : ((backTo pos (starEach (e :: es) X.env)).any (·.1) || (backToKw pos (keywordEach kws X.env)).any (·.1.isNone)) = false := by rfl) :
    PE X (.Call (.Name x p) (e :: es) kws pos) (LE (S := S) X.K TT E (dMakeP n ks.length gD sp fr fk)) := by
  obtain ⟨f, fd, ps, g, gV, F, M, hb, hv, hs⟩ := d.ex
  refine ⟨fun pins s σ H Q I h => wpAny_Call_Name_kw (ld_glob I gl hm ?_ hdb)⟩
  obtain ⟨ρ, n', P, R, rl, q, kQ, kE⟩ := h
  refine PySem.W.callWith_KW (h₀ := X.base) I.ok.mod.kin M.kp hall (thn (ha.run pos pins s σ H (fun vs H1 => ∃ ds m, SeesL X.K m H1 vs ds ∧ fk ρ m (fun es j => (ds.length = n ∧ es.length = ks.length) ∧ sp (gD ds es) j P R) R ∧ Fre X.K TT n' H m H1) I ⟨ρ, n', _, R, rl, q, fun ds m vs H1 z e s => ⟨ds, m, s, z, e⟩, kE⟩) fun us s1 ⟨vs, H1, I1, r, ds, m, se, z, e1⟩ => ?_) hpl he
  refine thn (hkw.run pos pins s1 σ H1 (fun zs H2 => ∃ es i, SeesL X.K i H2 zs es ∧ ((ds.length = n ∧ es.length = ks.length) ∧ sp (gD ds es) i P R) ∧ Fre X.K TT m H1 i H2) I1 ⟨ρ, m, _, R, rl.fre e1, z, fun es i zs H2 z e s => ⟨es, i, s, z, e⟩, kE.mono e1⟩) fun ws s2 ⟨zs, H2, I2, rz, es, i, sz, z2, e2⟩ => ⟨I2.kIn, ?_⟩
  rw [hks]
  have lu : us.length = n := by rw [← r.length, se.length]; exact z2.1.1
  have lw : ws.length = ks.length := by rw [← rz.length, sz.length]; exact z2.1.2
  have ee := e1.trans e2
  exact run_makeB (us0 := us) (kw := ks.zip ws) M F (hr.mono hk) (fun s x X' => hb s x us ws X' lu lw) hx I2 (hv r rz (by rw [se.length]; exact z2.1.1) (by rw [sz.length]; exact z2.1.2)) (hs i H2 vs zs ds es (se.mono e2.toFra) sz z2.1.1 z2.1.2) z2.2 (fun d i v H' y g t => kQ d i v H' y (ee.trans g) t) (kE.mono ee) (ee.st rl.st)
end
/-! ### an __init__ with keywords that have defaults -/
section
variable {P : Program} {w : World} {K : PySem.W.Frag} {mg : Str → Option Value} {base : Heap} {TT : List (Addr × Str)} {k : Nat} {sp : GDSp S} {N ps : List Str} {st : Stmt} {qual : Str} {C : Addr} {kds : List (Str × V)}
structure MkHK (K : PySem.W.Frag) (C : Addr) (qual : Str) (st : Stmt) (kds : List (Str × V)) : Prop where
  ex : ∃ (f : Addr) (fd : FuncData), FunD K "__init__" qual (defArgs st) (defBody st) (defScope st) [] kds f fd ∧ Mk K C f
structure MadeP (P : Program) (w : World) (K : PySem.W.Frag) (mg : Str → Option Value) (base : Heap) (TT : List (Addr × Str)) (k : Nat) (C : Addr) (qual : Str) (st : Stmt) (kds : List (Str × V)) (ps : List Str) (sp : GDSp S) : Prop where
  ex : ∃ (f : Addr) (fd : FuncData), FunD K "__init__" qual (defArgs st) (defBody st) (defScope st) [] kds f fd ∧ Mk K C f ∧ Rn P w K mg base false k f fd ps (LSpI K TT C sp)
theorem inip_ok (F : MkHK K C qual st kds) (Sc : FnScope N ps (defScope st)) (hN : 0 < N.length)
    (body : ∀ (f : Addr) (cdv : Value) (A : Around) (outer : List Env) (s : Shared) (H : Hp) (E : XK), Room k (A.deeper (envOfC qual (defScope st) s.heap.objs.size f cdv)) →
      ∃ g, PSs (cxOf (L2.CX P w) P w K mg base N qual (defScope st) f cdv A outer s H E) (defBody st) (LS K TT E g) ∧ ∀ x ds n PP R, sp ds n PP R → g { nx := fun ρ' m => insOf (slAt ρ' 0) fun a C' ks es => a = x ∧ C' = C ∧ PP (.obj C ks es) m, rt := fun _ _ => False, ex := R } ((dstart N (.non :: ds)).set 0 (.ins x C [] [])) n)
    (hl : ∀ ds n PP R, sp ds n PP R → ds.length + 1 = ps.length) : MadeP P w K mg base TT (k + 1) C qual st kds ps sp := by
  obtain ⟨f, fd, F, M⟩ := F.ex
  obtain ⟨oc, od, dV, kV, doc, pm, an, cdv, ct, osl, e, lk, hcd, _, _⟩ := id F.ex
  subst e
  exact ⟨f, _, F, M, rn_init lk hcd Sc hN (fun A outer s H E hr => body f cdv A outer s H E hr) hl⟩
/-- n values and all the keywords ks, in this order -/
theorem MadeP.kw (d : MadeP P w K mg base TT k C qual st kds ps sp) (n : Nat) (ks : List Str) (hk : kds ≠ [])
    (h : ∀ (D : Addr) (doc pm : Value) (an : Option Addr) (cdv ct : Value) (us ws : List Value), us.length = n + 1 → ws.length = ks.length →
      bindArgs (PySem.W.fnOf "__init__" qual (defArgs st) (defBody st) (defScope st) .none (.ref D) doc pm an cdv ct) ⟨us, ks.zip ws⟩ = pure (ps.zip (us ++ [] ++ ws))) : DfK' P w K mg base TT k C n ks (fun ds es => ds ++ es) sp := by
  obtain ⟨f, fd, F, M, R⟩ := d.ex
  obtain ⟨mv, B⟩ := F.kbinds0 (n + 1) ks [] (fun us mv ws => us ++ mv ++ ws) hk (by simp) (fun r1 r2 r3 => (r1.append r2).append r3) (ps := ps) fun D doc pm an cdv ct us mv ws h1 h2 h3 => by
    obtain rfl : mv = [] := List.eq_nil_of_length_eq_zero h2
    exact h D doc pm an cdv ct us ws h1 h3
  refine ⟨f, fd, ps, fun us ws => us ++ mv ++ ws, fun vs zs => vs ++ [] ++ zs, R, M, fun s x us ws X lu lw => ?_, fun {vs us zs ws} r rz l1 l2 => ?_, fun m H vs zs ds es s1 s2 _ _ => ?_⟩
  · exact B.to s (.ref x :: us) ws X (by rw [List.length_cons, lu]) lw
  · have z := B.rel r rz
    exact z
  · show SeesL K m H ((vs ++ []) ++ zs) (ds ++ es)
    rw [List.append_nil]
    exact s1.append s2
end
end Aim

namespace PySem.W
open PySem PySem.Calls PyProof.Rows Builtin
section
variable {prog : Program} {w : World} {A : Around} {E : Value → Shared → Prop} {s : Shared} {K : Frag} {x C L f : Addr} {h₀ : Heap} {m : Str → Option Value} {ox : Obj} {od : Option Obj} {nm T : String}
/-- x op b, x of one's own class, b of a built-in type, by its type -/
theorem aim_binL {op : Operator} {b : Value} {fo ro rc : Option Value} {Q : Value → Shared → Prop} (F : Fr h₀ L s.heap m) (X₀ : K.In h₀) (I : InstAt s.heap x ox C od) (hb : Looks (model prog w) s.heap (typeOf b) (.type T)) (hc : selfFirst K C = true)
    (hs : findIn K (.ref C) (PySem.dunder op.info.2) = some (some (.ref f))) (hf : isFn K (.ref f) = true) (hr : findIn K (.ref C) (dunderR op.info.2) = some rc) (hp : rc = none ∨ ∃ g : Addr, rc = some (.ref g))
    (h1 : findIn K (.type T) (PySem.dunder op.info.2) = some fo) (h2 : findIn K (.type T) (dunderR op.info.2) = some ro) (hsub : subIn K (.type T) (.ref C) = some false)
    (h : wpAny (model prog w) A (call (.ref f) [.ref x, b]) (CmpBack Q) E s) : wpAny (model prog w) A (binaryOp op (.ref x) b) Q E s := by
  have X := X₀.keeps F.keep
  obtain ⟨cd, rest, hcd, hm⟩ := ksp_first hc
  rcases hi : op.info with ⟨sym, nm'⟩
  rw [hi] at hs hr h1 h2
  dsimp only at hs hr h1 h2
  have one := ksp_try X I hs hf h
  obtain ⟨hh, g, d, tt, os⟩ := s
  have L1 : Looks (model prog w) hh (typeOf (.ref x)) (.ref C) := I.type
  have L2 : Looks (model prog w) hh (typeOf b) (.type T) := hb
  have L3 : Looks (model prog w) hh (fillsNumberSlot (.ref C) nm') true := fills_K X hcd hm hs
  have L4 : Looks (model prog w) hh (fillsNumberSlot (.type T) nm') ((fo.isSome && !isSeqSlot fo) || (ro.isSome && !isSeqSlot ro)) := ksp_fillsT X h1 h2
  have L5 : Looks (model prog w) hh (isSubtype (.type T) (.ref C)) false := looks_subIn X hsub
  have L6 : Looks (model prog w) hh (numberSlotInPython (.ref C) nm') true := ksp_inPy X hs hr hp
  have L7 : Looks (model prog w) hh (numberSlotInPython (.type T) nm') false := Looks.of_pure rfl
  have L8 : Looks (model prog w) hh (typeLookup (.type T) (dunderR nm')) ro := looks_findIn X h2
  generalize ((fo.isSome && !isSeqSlot fo) || (ro.isSome && !isSeqSlot ro)) = right at L4
  have hne : (Value.ref C == Value.type T) = false := Bool.eq_false_iff.mpr fun q => by cases beq_iff_eq.mp q
  simp only [binaryOp, hi]
  refine wpAny_holding (wpAny_bind ?_)
  unfold binaryOp1
  refine wpAny_bind (L1.at (wpAny_bind (L2.at (wpAny_bind (L3.at ?_)))))
  simp only [hne, Bool.false_eq_true, if_false]
  cases right with
  | false =>
    ksp_lk
    refine wpAny_mono one (fun r s' hr' => ?_) fun _ _ e => e
    obtain ⟨v, rfl, hq⟩ := hr'
    ksp_lk
    exact hq
  | true =>
    ksp_lk
    refine wpAny_mono one (fun r s' hr' => ?_) fun _ _ e => e
    obtain ⟨v, rfl, hq⟩ := hr'
    ksp_lk
    exact hq
end
end PySem.W
namespace Aim
open PySem PySem.Spec PyProof.Rows L2
open LamX (TabB Tabs CodeO)
open Stt (cnt sto)
variable {S : Type} [Stt S]
/-! ### things of one's own class: instances that stand, and such as may change -/
section
variable {X : Cx} {pins : List (Addr × Obj)} {σ : L2.St} {H : Hp} {s : Shared} {k j : Nat} {C f : Addr} {sp : Sp} {E : XK}
def IsAt (H : Hp) (a C : Addr) : Prop := (∃ dx fs, H a = some (.ins C dx fs)) ∨ ∃ dx ks xs, H a = some (HidX C dx a) ∧ H dx = some (OwnS (.ins ks) xs dx)
theorem IsAt.inst (I : Inv X pins σ H s) {a : Addr} (h : IsAt H a C) : ∃ ox od, PySem.W.InstAt s.heap a ox C od := by
  rcases h with ⟨dx, fs, h⟩ | ⟨dx, ks, xs, h1, h2⟩
  · exact ins_at I h
  · have y : s.heap.get? a = some (PySem.W.instObj C dx) := OwnS.at I.hok h1
    obtain ⟨_, ⟨o, es, ep, e, d⟩, _⟩ := OwnS.at I.hok h2
    exact ⟨_, some o, y, rfl, rfl, e⟩
/-- run a method's promise one unit deeper -/
theorem run_fnR1 {Q : VK} {us : List Value} {vs : List V} (F : FnR X.prog X.w X.K X.mg X.base (L2.CX X.prog X.w) k f sp) (hr : Room (k + 1) X.A) (hx : Passes (L2.CX X.prog X.w) X E) (I : Inv X pins σ H s) (r : Vals vs us) (h : sp vs H Q E) :
    codeAny (model X.prog X.w) X.A.in1 (.call (.ref f) ⟨us, []⟩) (fun r s' => match r with | .ok (.ret v) => EP X pins σ Q v s' | .ok _ => False | .error e => X.xe e s') s := by
  refine codeAny_mono (F X.A.in1 X.stack s H us vs Q E hr.in1 I.env0.in1 r h) fun r s' hq => ?_
  cases r with
  | error e => exact hx pins σ H s e s' I hq
  | ok fl =>
    cases fl with
    | ret v => exact I.after hq
    | next => exact hq
    | brk => exact hq
    | cont => exact hq
/-- x in y, x not in y -/
def rInA (neg : Bool) (C : Addr) (sp : Sp) (E : XK) : R2 := fun x y H Q => ∃ a, y = .ref a ∧ IsAt H a C ∧ sp [.ref a, x] H (fun v H' => ∃ b, v = .bl b ∧ Q (.bl (neg ^^ b)) H') E
theorem op_inA (d : Meth X.K C "__contains__" f) (F : FnR X.prog X.w X.K X.mg X.base (L2.CX X.prog X.w) k f sp) (hr : Room k X.A) (hx : Passes (L2.CX X.prog X.w) X E) : OpR X (compareOp .In) (rInA false C sp E) := by
  intro pins s σ H x y v u Q I rx ry ⟨a, ey, ha, q⟩
  subst ey
  obtain rfl : u = Value.ref a := ry
  obtain ⟨m, fr⟩ := inv_fr I
  obtain ⟨ox, od, J⟩ := ha.inst I
  refine PySem.W.in_K fr I.ok.mod.kin J d.at_ d.fn (wpAny_mono (wpAny_call (run_fnR F hr hx I (us := [Value.ref a, v]) (vs := [V.ref a, x]) (.cons (show RelV (V.ref a) (Value.ref a) from rfl) (.cons rx .nil)) q)) (fun r s' z => ?_) fun _ _ e => e)
  obtain ⟨w, H', I', rw', b, rfl, q'⟩ := z
  obtain rfl : r = Value.bool b := rw'
  exact wpAny_truthy_bool ⟨.bl b, H', I', (show RelV (V.bl b) (Value.bool b) from rfl), by simpa using q'⟩
theorem op_notInA (d : Meth X.K C "__contains__" f) (F : FnR X.prog X.w X.K X.mg X.base (L2.CX X.prog X.w) k f sp) (hr : Room k X.A) (hx : Passes (L2.CX X.prog X.w) X E) : OpR X (compareOp .NotIn) (rInA true C sp E) := by
  intro pins s σ H x y v u Q I rx ry ⟨a, ey, ha, q⟩
  subst ey
  obtain rfl : u = Value.ref a := ry
  obtain ⟨m, fr⟩ := inv_fr I
  obtain ⟨ox, od, J⟩ := ha.inst I
  refine PySem.W.notIn_K fr I.ok.mod.kin J d.at_ d.fn (wpAny_mono (wpAny_call (run_fnR F hr hx I (us := [Value.ref a, v]) (vs := [V.ref a, x]) (.cons (show RelV (V.ref a) (Value.ref a) from rfl) (.cons rx .nil)) q)) (fun r s' z => ?_) fun _ _ e => e)
  obtain ⟨w, H', I', rw', b, rfl, q'⟩ := z
  obtain rfl : r = Value.bool b := rw'
  exact wpAny_truthy_bool ⟨.bl (!b), H', I', (show RelV (V.bl (!b)) (Value.bool (!b)) from rfl), by simpa using q'⟩
/-- x op y -/
structure BinT (K : PySem.W.Frag) (C : Addr) (nm : String) : Prop where
  rc : ∃ rc, PySem.W.findIn K (.ref C) (dunderR nm) = some rc ∧ (rc = none ∨ ∃ g : Addr, rc = some (.ref g))
  ty : ∀ t ∈ (["NoneType", "bool", "int", "str", "tuple", "list", "dict", "float", "bytes"] : List String), ∃ fo ro, PySem.W.findIn K (.type t) (PySem.dunder nm) = some fo ∧ PySem.W.findIn K (.type t) (dunderR nm) = some ro
  sn : SubN K C
def rBinA (K : PySem.W.Frag) (C : Addr) (sp : Sp) (E : XK) : R2 := fun x y H Q => ∃ a, x = .ref a ∧ IsAt H a C ∧ ((∃ b, y = .ref b ∧ IsAt H b C) ∨ ∃ d, DD K H y d) ∧ sp [.ref a, y] H Q E
theorem op_binA {op : Operator} (d : Meth X.K C (PySem.dunder op.info.2) f) (hc : PySem.W.selfFirst X.K C = true) (T : BinT X.K C op.info.2) (F : FnR X.prog X.w X.K X.mg X.base (L2.CX X.prog X.w) k f sp) (hr : Room k X.A) (hx : Passes (L2.CX X.prog X.w) X E) : OpR X (binaryOp op) (rBinA X.K C sp E) := by
  intro pins s σ H x y v u Q I rx ry ⟨a, ex, ha, hy, q⟩
  subst ex
  obtain rfl : v = Value.ref a := rx
  obtain ⟨m, fr⟩ := inv_fr I
  obtain ⟨ox, od, J⟩ := ha.inst I
  have run := wpAny_mono (wpAny_call (run_fnR F hr hx I (us := [Value.ref a, u]) (vs := [V.ref a, y]) (.cons (show RelV (V.ref a) (Value.ref a) from rfl) (.cons ry .nil)) q)) (Q' := PySem.W.CmpBack (EP X pins σ Q)) (fun r s' z => by
    obtain ⟨w, H', I', rw', q'⟩ := z
    exact back_of (rel_not rw') ⟨w, H', I', rw', q'⟩) fun _ _ e => e
  rcases hy with ⟨b, rfl, hb⟩ | ⟨e, he⟩
  · obtain rfl : u = Value.ref b := ry
    obtain ⟨ox', od', J'⟩ := hb.inst I
    exact PySem.W.binop_K fr I.ok.mod.kin J J'.type hc d.at_ d.fn run
  · obtain ⟨rc, h1, h2⟩ := T.rc
    obtain ⟨fo, ro, h3, h4⟩ := T.ty _ (tyD_in (d := e))
    exact PySem.W.aim_binL fr I.ok.mod.kin J (dd_type I he ry) hc d.at_ d.fn h1 h2 h3 h4 (T.sn _ tyD_in) run
/-- x == y and the like -/
def rCmpA (K : PySem.W.Frag) (C : Addr) (sp : Sp) (E : XK) : R2 := fun x y H Q => ∃ a, x = .ref a ∧ IsAt H a C ∧ ((∃ b, y = .ref b ∧ IsAt H b C) ∨ ∃ d, DD K H y d ∧ PySem.W.subIn K (.type (tyD d)) (.ref C) = some false) ∧ sp [.ref a, y] H Q E
theorem op_cmpA {op : CmpOp} (d : Meth X.K C (cmpInfo op).2.1 f) (F : FnR X.prog X.w X.K X.mg X.base (L2.CX X.prog X.w) k f sp) (hop : ∀ a b, compareOp op a b = richCompare op a b) (hr : Room k X.A) (hx : Passes (L2.CX X.prog X.w) X E) : OpR X (compareOp op) (rCmpA X.K C sp E) := by
  intro pins s σ H x y v u Q I rx ry ⟨a, ex, ha, hy, q⟩
  subst ex
  obtain rfl : v = Value.ref a := rx
  obtain ⟨m, fr⟩ := inv_fr I
  obtain ⟨ox, od, J⟩ := ha.inst I
  have run := wpAny_mono (wpAny_call (run_fnR F hr hx I (us := [Value.ref a, u]) (vs := [V.ref a, y]) (.cons (show RelV (V.ref a) (Value.ref a) from rfl) (.cons ry .nil)) q)) (Q' := PySem.W.CmpBack (EP X pins σ Q)) (fun r s' z => by
    obtain ⟨w, H', I', rw', q'⟩ := z
    exact back_of (rel_not rw') ⟨w, H', I', rw', q'⟩) fun _ _ e => e
  rw [hop]
  rcases hy with ⟨b, rfl, hb'⟩ | ⟨e, he, hn⟩
  · obtain rfl : u = Value.ref b := ry
    obtain ⟨ox', od', J'⟩ := hb'.inst I
    exact PySem.W.cmp_K (by have := hr.units; omega) fr I.ok.mod.kin J J'.type (by unfold PySem.W.notFirst; simp) d.at_ d.fn run
  · exact PySem.W.cmp_K (by have := hr.units; omega) fr I.ok.mod.kin J (dd_type I he ry) (by unfold PySem.W.notFirst; simp [hn]) d.at_ d.fn run
/-- len(x) -/
def rLenA (C : Addr) (sp : Sp) (E : XK) : List V → Hp → VK → Prop := fun xs H Q => ∃ a, xs = [.ref a] ∧ IsAt H a C ∧ sp [.ref a] H (fun v H' => ∃ n : Nat, v = .int n ∧ n ≤ 16777216 ∧ Q (.int n) H') E
theorem call_lenA (d : Meth X.K C "__len__" f) (F : FnR X.prog X.w X.K X.mg X.base (L2.CX X.prog X.w) k f sp) (hr : Room (k + 1) X.A) (hx : Passes (L2.CX X.prog X.w) X E) : CallR X (.builtin "len") (rLenA C sp E) := by
  intro pins s σ H xs us Q I r ⟨a, e, ha, q⟩
  subst e
  cases r with
  | cons r1 r2 =>
    cases r2
    obtain rfl : _ = Value.ref a := r1
    obtain ⟨m, fr⟩ := inv_fr I
    obtain ⟨ox, od, J⟩ := ha.inst I
    refine PySem.W.len_K fr I.ok.mod.kin J d.at_ d.fn (wpAny_mono (wpAny_call (run_fnR1 F hr hx I (us := [Value.ref a]) (vs := [V.ref a]) (.cons (show RelV (V.ref a) (Value.ref a) from rfl) .nil) q)) (fun r s' z => ?_) fun _ _ e => e)
    obtain ⟨w, H', I', rw', n, rfl, hn, q'⟩ := z
    obtain ⟨t, rfl⟩ := rw'
    exact ⟨⟨by omega, by omega⟩, ⟨.int n, H', I'.kept (t' := s'.toks + 1) (fun b o e => e), ⟨_, rfl⟩, q'⟩⟩
/-- x[e], by __getitem__ -/
def rIxA (C : Addr) (sp : Sp) (E : XK) : R2 := fun x y H Q => ∃ a, x = .ref a ∧ IsAt H a C ∧ sp [.ref a, y] H Q E
def SubA (e : Expr) : Prop := ∀ (x : Addr) (i : Value), subscripted e true (.ref x) i = runValue (.builtin "lifetime.subscript" ⟨[.ref x, i], []⟩)
theorem pe_ixA {a b : Expr} {ta tb : TE} {pos : Pos} (d : Meth X.K C "__getitem__" f) (hfn : PySem.W.fnIn X.K f = true) (F : FnR X.prog X.w X.K X.mg X.base (L2.CX X.prog X.w) k f sp) (hr : Room (k + 1) X.A) (hx : Passes (L2.CX X.prog X.w) X E) (ha : PE X a ta) (hb : PE X b tb) (hs : SubA b) : PE X (.Subscript a b pos) (tOp (rIxA C sp E) ta tb) := by
  refine ⟨fun pins s σ H Q I h => ?_⟩
  refine Subscript_ (binT ha hb I h fun v u s2 x y H2 I2 rx ry q => ?_)
  obtain ⟨a, rfl, hat, q⟩ := q
  obtain rfl : v = Value.ref a := rx
  obtain ⟨m, fr⟩ := inv_fr I2
  obtain ⟨ox, od, J⟩ := hat.inst I2
  exact PySem.W.sub_K fr I2.ok.mod.kin J d.at_ hfn d.fn (wpAny_call (run_fnR1 F hr hx I2 (us := [Value.ref a, u]) (vs := [V.ref a, y]) (.cons (show RelV (V.ref a) (Value.ref a) from rfl) (.cons ry .nil)) q)) (hs _ _)
end
/-! ### by data -/
def instD (C : Addr) (n : S) : Dat → Prop
  | .obj C' _ _ => C' = C
  | .ref a => ∃ dx es ks ds, sto n a = some (.inst C dx, es) ∧ sto n dx = some (.ins ks, ds)
  | _ => False
section
variable {X : Cx} {TT : List (Addr × Str)} {E : XK} {k j : Nat} {C : Addr} {sp : GDSp S} {a b : Expr} {fa fb : GDE S} {fr : GDA S} {pos : Pos}
theorem instD_at {K : PySem.W.Frag} {n : S} {H : Hp} {v : V} {d : Dat} (h : instD C n d) (s : Sees K n H v d) (st : StoOk K n H) : ∃ a, v = .ref a ∧ IsAt H a C := by
  unfold instD at h
  split at h
  · subst h
    cases s with
    | obj h1 h2 h3 => exact ⟨_, rfl, .inl ⟨_, _, h1⟩⟩
  · rename_i a
    obtain ⟨dx, es, ks, ds, h1, h2⟩ := h
    obtain ⟨xs, e1, w1, _⟩ := st.ok _ _ _ h1
    obtain ⟨ys, e2, _, _⟩ := st.ok _ _ _ h2
    obtain ⟨rfl, _⟩ : xs = [] ∧ _ := w1
    exact ⟨a, s.ref_iff, .inr ⟨dx, ks, ys, e1, e2⟩⟩
  · exact h.elim
def dInO (neg : Bool) (C : Addr) (sp : GDSp S) (fx fo : GDE S) : GDE S := fun ρ n P R => fx ρ n (fun x m => fo ρ m (fun o k => instD C k o ∧ sp [o, x] k (fun d j => asB d fun b => P (.bl (neg ^^ b)) j) R) R) R
theorem LE.inA {neg : Bool} {σ : L2.St} {H : Hp} {Q : VK} (h : LE X.K TT E (dInO neg C sp fa fb) σ H Q) : tOp (rInA neg C (spO (LSp X.K TT sp)) E) (LE X.K TT E fa) (LE X.K TT E fb) σ H Q := by
  obtain ⟨ρ, n, P, R, rl, f, k, x⟩ := h
  refine ⟨ρ, n, _, R, rl, f, fun d m v H1 q1 e1 s1 => ⟨ρ, m, _, R, rl.fre e1, q1, fun e j u H2 q2 e2 s2 => ?_, x.mono e1⟩, x⟩
  obtain ⟨hd, q⟩ := q2
  have e12 := e1.trans e2
  obtain ⟨a, rfl, ha⟩ := instD_at hd s2 (e12.st rl.st)
  refine ⟨a, rfl, ha, spO_go x rl.st e12 (.cons s2 (.cons (s1.mono e2.toFra) .nil)) q fun d i v H' p e s => ?_⟩
  obtain ⟨b, rfl, p⟩ := asB_of p
  exact ⟨b, s.bl_iff, k _ i _ H' p e (.bl _)⟩
theorem de_inO (d : MdD X.prog X.w X.K X.mg X.base TT k C "__contains__" sp) (hr : Room j X.A) (hk : k ≤ j) (hx : Passes (L2.CX X.prog X.w) X E) (ha : PE X a (LE X.K TT E fa)) (hb : PE X b (LE X.K TT E fb)) (hm : behindInMarks .In b = false := by rfl) : PE X (.Compare a [.In] [b] pos) (LE X.K TT E (dInO false C sp fa fb)) := by
  obtain ⟨f, F, M⟩ := d.ex
  exact (pe_cmpR (op_inA M F (hr.mono hk) hx) ha hb hm).imp fun _ _ _ h => h.inA
theorem dt_inO (d : MdD X.prog X.w X.K X.mg X.base TT k C "__contains__" sp) (hr : Room j X.A) (hk : k ≤ j) (hx : Passes (L2.CX X.prog X.w) X E) (ha : PE X a (LE X.K TT E fa)) (hb : PE X b (LE X.K TT E fb)) (hm : behindInMarks .In b = false := by rfl) : PT X (.Compare a [.In] [b] pos) (LTs X.K TT E (dTst (dInO false C sp fa fb))) := by
  obtain ⟨f, F, M⟩ := d.ex
  exact (pt_cmpR (op_inA M F (hr.mono hk) hx) ha hb hm).imp fun _ _ _ h => by
    have q := h.tst
    exact q.inA
theorem de_notInO (d : MdD X.prog X.w X.K X.mg X.base TT k C "__contains__" sp) (hr : Room j X.A) (hk : k ≤ j) (hx : Passes (L2.CX X.prog X.w) X E) (ha : PE X a (LE X.K TT E fa)) (hb : PE X b (LE X.K TT E fb)) (hm : behindInMarks .NotIn b = false := by rfl) : PE X (.Compare a [.NotIn] [b] pos) (LE X.K TT E (dInO true C sp fa fb)) := by
  obtain ⟨f, F, M⟩ := d.ex
  exact (pe_cmpR (op_notInA M F (hr.mono hk) hx) ha hb hm).imp fun _ _ _ h => h.inA
theorem dt_notInO (d : MdD X.prog X.w X.K X.mg X.base TT k C "__contains__" sp) (hr : Room j X.A) (hk : k ≤ j) (hx : Passes (L2.CX X.prog X.w) X E) (ha : PE X a (LE X.K TT E fa)) (hb : PE X b (LE X.K TT E fb)) (hm : behindInMarks .NotIn b = false := by rfl) : PT X (.Compare a [.NotIn] [b] pos) (LTs X.K TT E (dTst (dInO true C sp fa fb))) := by
  obtain ⟨f, F, M⟩ := d.ex
  exact (pt_cmpR (op_notInA M F (hr.mono hk) hx) ha hb hm).imp fun _ _ _ h => by
    have q := h.tst
    exact q.inA
/-- x op y, x <= y: the left one of one's own class, the right one too, or plain -/
def dOpA (C : Addr) (sp : GDSp S) (fa fb : GDE S) : GDE S := fun ρ n P R => fa ρ n (fun d m => fb ρ m (fun e k => instD C k d ∧ (instD C k e ∨ plain e = true) ∧ sp [d, e] k P R) R) R
theorem LE.opA {σ : L2.St} {H : Hp} {Q : VK} (h : LE X.K TT E (dOpA C sp fa fb) σ H Q) : tOp (rBinA X.K C (spO (LSp X.K TT sp)) E) (LE X.K TT E fa) (LE X.K TT E fb) σ H Q := by
  obtain ⟨ρ, n, P, R, rl, f, k, x⟩ := h
  refine ⟨ρ, n, _, R, rl, f, fun d m v H1 q1 e1 s1 => ⟨ρ, m, _, R, rl.fre e1, q1, fun e j u H2 q2 e2 s2 => ?_, x.mono e1⟩, x⟩
  obtain ⟨hd, he, q⟩ := q2
  have e12 := e1.trans e2
  have st := e12.st rl.st
  have s1 := s1.mono e2.toFra
  obtain ⟨a, rfl, ha⟩ := instD_at hd s1 st
  refine ⟨a, rfl, ha, ?_, spO_go x rl.st e12 (.cons s1 (.cons s2 .nil)) q k⟩
  rcases he with he | he
  · obtain ⟨b, rfl, hb⟩ := instD_at he s2 st
    exact .inl ⟨b, rfl, hb⟩
  · exact .inr ⟨_, s2.dd he⟩
theorem de_binA {op : Operator} (d : MdD X.prog X.w X.K X.mg X.base TT k C (PySem.dunder op.info.2) sp) (hc : PySem.W.selfFirst X.K C = true) (T : BinT X.K C op.info.2) (hr : Room j X.A) (hk : k ≤ j) (hx : Passes (L2.CX X.prog X.w) X E) (ha : PE X a (LE X.K TT E fa)) (hb : PE X b (LE X.K TT E fb)) : PE X (.BinOp a op b pos) (LE X.K TT E (dOpA C sp fa fb)) := by
  obtain ⟨f, F, M⟩ := d.ex
  exact (pe_op (op_binA M hc T F (hr.mono hk) hx) ha hb).imp fun _ _ _ h => h.opA
theorem LE.cmpA {σ : L2.St} {H : Hp} {Q : VK} (sn : SubN X.K C) (h : LE X.K TT E (dOpA C sp fa fb) σ H Q) : tOp (rCmpA X.K C (spO (LSp X.K TT sp)) E) (LE X.K TT E fa) (LE X.K TT E fb) σ H Q := by
  obtain ⟨ρ, n, P, R, rl, f, k, x⟩ := h
  refine ⟨ρ, n, _, R, rl, f, fun d m v H1 q1 e1 s1 => ⟨ρ, m, _, R, rl.fre e1, q1, fun e j u H2 q2 e2 s2 => ?_, x.mono e1⟩, x⟩
  obtain ⟨hd, he, q⟩ := q2
  have e12 := e1.trans e2
  have st := e12.st rl.st
  have s1 := s1.mono e2.toFra
  obtain ⟨a, rfl, ha⟩ := instD_at hd s1 st
  refine ⟨a, rfl, ha, ?_, spO_go x rl.st e12 (.cons s1 (.cons s2 .nil)) q k⟩
  rcases he with he | he
  · obtain ⟨b, rfl, hb⟩ := instD_at he s2 st
    exact .inl ⟨b, rfl, hb⟩
  · exact .inr ⟨_, s2.dd he, sn _ tyD_in⟩
theorem de_cmpA {op : CmpOp} (d : MdD X.prog X.w X.K X.mg X.base TT k C (cmpInfo op).2.1 sp) (sn : SubN X.K C) (hop : ∀ a b, compareOp op a b = richCompare op a b) (hr : Room j X.A) (hk : k ≤ j) (hx : Passes (L2.CX X.prog X.w) X E) (ha : PE X a (LE X.K TT E fa)) (hb : PE X b (LE X.K TT E fb)) (hm : behindInMarks op b = false) : PE X (.Compare a [op] [b] pos) (LE X.K TT E (dOpA C sp fa fb)) := by
  obtain ⟨f, F, M⟩ := d.ex
  exact (pe_cmpR (op_cmpA M F hop (hr.mono hk) hx) ha hb hm).imp fun _ _ _ h => h.cmpA sn
theorem dt_cmpA {op : CmpOp} (d : MdD X.prog X.w X.K X.mg X.base TT k C (cmpInfo op).2.1 sp) (sn : SubN X.K C) (hop : ∀ a b, compareOp op a b = richCompare op a b) (hr : Room j X.A) (hk : k ≤ j) (hx : Passes (L2.CX X.prog X.w) X E) (ha : PE X a (LE X.K TT E fa)) (hb : PE X b (LE X.K TT E fb)) (hm : behindInMarks op b = false) : PT X (.Compare a [op] [b] pos) (LTs X.K TT E (dTst (dOpA C sp fa fb))) := by
  obtain ⟨f, F, M⟩ := d.ex
  exact (pt_cmpR (op_cmpA M F hop (hr.mono hk) hx) ha hb hm).imp fun _ _ _ h => by
    have q := h.tst
    exact q.cmpA sn
/-- x[e] -/
def dIxA (C : Addr) (sp : GDSp S) (fa fb : GDE S) : GDE S := fun ρ n P R => fa ρ n (fun d m => fb ρ m (fun e k => instD C k d ∧ sp [d, e] k P R) R) R
theorem LE.ixA {σ : L2.St} {H : Hp} {Q : VK} (h : LE X.K TT E (dIxA C sp fa fb) σ H Q) : tOp (rIxA C (spO (LSp X.K TT sp)) E) (LE X.K TT E fa) (LE X.K TT E fb) σ H Q := by
  obtain ⟨ρ, n, P, R, rl, f, k, x⟩ := h
  refine ⟨ρ, n, _, R, rl, f, fun d m v H1 q1 e1 s1 => ⟨ρ, m, _, R, rl.fre e1, q1, fun e j u H2 q2 e2 s2 => ?_, x.mono e1⟩, x⟩
  obtain ⟨hd, q⟩ := q2
  have e12 := e1.trans e2
  have s1 := s1.mono e2.toFra
  obtain ⟨a, rfl, ha⟩ := instD_at hd s1 (e12.st rl.st)
  exact ⟨a, rfl, ha, spO_go x rl.st e12 (.cons s1 (.cons s2 .nil)) q k⟩
theorem fnIn_of {nm qual : Str} {st : Stmt} {f : Addr} {fd : FuncData} (F : L2.Fun X.K nm qual st f fd) : PySem.W.fnIn X.K f = true := by
  obtain ⟨oc, od, kV, doc, pm, an, cdv, ct, osl, rfl, lk, _⟩ := F.ex
  unfold PySem.W.fnIn
  rw [lk]
theorem de_ixA {qual : Str} {st : Stmt} (M0 : MdH X.K C "__getitem__" qual st) (d : MdD X.prog X.w X.K X.mg X.base TT k C "__getitem__" sp) (hr : Room j X.A) (hk : k + 1 ≤ j) (hx : Passes (L2.CX X.prog X.w) X E) (ha : PE X a (LE X.K TT E fa)) (hb : PE X b (LE X.K TT E fb)) (hs : SubA b) : PE X (.Subscript a b pos) (LE X.K TT E (dIxA C sp fa fb)) := by
  obtain ⟨f, F, M⟩ := d.ex
  obtain ⟨f', fd, F', h1, _⟩ := M0.ex
  obtain rfl : f = f' := by
    have z := M.at_
    rw [h1] at z
    injection z with z
    injection z with z
    injection z with z
    exact z.symm
  exact (pe_ixA M (fnIn_of F') F (hr.mono hk) hx ha hb hs).imp fun _ _ _ h => h.ixA
/-- len(x) -/
def dLenO (C : Addr) (sp : GDSp S) (f : GDE S) : GDE S := fun ρ n P R => f ρ n (fun d m => instD C m d ∧ sp [d] m (fun e j => ∃ n : Nat, e = .int n ∧ n ≤ 16777216 ∧ P (.int n) j) R) R
theorem de_lenO {e : Expr} {f : GDE S} (h : PE X e (tCB (rLenA C (spO (LSp X.K TT sp)) E) (tCons (LE X.K TT E f) tNil))) : PE X e (LE X.K TT E (dLenO C sp f)) := h.imp fun σ H Q ⟨ρ, n, P, R, r, q, k, x⟩ => ⟨ρ, n, _, R, r, q, fun d m v H1 z e s => by
  obtain ⟨hd, z⟩ := z
  obtain ⟨a, rfl, ha⟩ := instD_at hd s (e.st r.st)
  refine ⟨a, rfl, ha, spO_go x r.st e (.cons s .nil) z fun d i v H' p e s => ?_⟩
  obtain ⟨n, rfl, hn, p⟩ := p
  exact ⟨n, s.int_iff, hn, k _ i _ H' p e (.int _)⟩, x⟩
end
end Aim

namespace Aim
open PySem PySem.Spec PyProof.Rows L2
open LamX (TabB Tabs CodeO)
/-! ### things told otherwise, all at once -/
abbrev Rt := Addr → Option (HO × HO)
def rt (F : Rt) (H : Hp) : Hp := fun a => match F a with
  | some p => some p.2
  | none => H a
def Rt.sw (F : Rt) : Rt := fun a => (F a).map fun p => (p.2, p.1)
def soft : HO → Prop
  | .tup _ => False
  | .frz _ _ => False
  | .tbl _ => False
  | _ => True
section
variable {F : Rt} {H G : Hp} {a : Addr} {p : HO × HO}
theorem rt_in (e : F a = some p) : rt F H a = some p.2 := by unfold rt; rw [e]
theorem rt_out (e : F a = none) : rt F H a = H a := by unfold rt; rw [e]
theorem sw_in (e : F a = some p) : F.sw a = some (p.2, p.1) := by unfold Rt.sw; rw [e]; rfl
theorem sw_out (e : F a = none) : F.sw a = none := by unfold Rt.sw; rw [e]; rfl
theorem sw_of {q : HO × HO} (e : F.sw a = some q) : F a = some (q.2, q.1) := by
  unfold Rt.sw at e
  obtain ⟨p, e1, rfl⟩ := Option.map_eq_some_iff.mp e
  exact e1
theorem rtS_in (e : F a = some p) : rt F.sw G a = some p.1 := rt_in (sw_in e)
theorem rtS_out (e : F a = none) : rt F.sw G a = G a := rt_out (sw_out e)
end
structure RtOk (P : Program) (w : World) (F : Rt) (H : Hp) (h : Heap) : Prop where
  at_ : ∀ a p, F a = some p → H a = some p.1
  soft : ∀ a p, F a = some p → soft p.1
  own : ∀ a p b, F a = some p → p.1 = .own b → F b ≠ none
  ok : ∀ a p, F a = some p → ObjOk P w (rt F H) h a p.2
section
variable {P : Program} {w : World} {F : Rt} {H G : Hp} {h : Heap}
theorem RtOk.none (r : RtOk P w F H h) {a : Addr} (e : H a = Option.none) : F a = Option.none := by
  cases z : F a with
  | none => rfl
  | some p => rw [r.at_ a p z] at e; cases e
theorem RtOk.hard (r : RtOk P w F H h) {a : Addr} {o : HO} (e : H a = some o) (n : ¬ Aim.soft o) : F a = Option.none := by
  cases z : F a with
  | none => rfl
  | some p =>
    have y := r.at_ a p z
    rw [e] at y
    exact absurd (Option.some.inj y ▸ r.soft a p z) n
theorem RtOk.hok (r : RtOk P w F H h) (hok : HOk P w H h) : HOk P w (rt F H) h := fun a o e => by
  cases z : F a with
  | some p =>
    rw [rt_in z] at e
    cases e
    exact r.ok a p z
  | none =>
    rw [rt_out z] at e
    refine (hok a o e).stay (fun _ _ _ e => e) (fun b y => ?_) fun b xs y => ?_
    · rw [rt_out]
      · exact y
      cases q : F b with
      | none => rfl
      | some p =>
        have y2 := r.at_ b p q
        rw [y] at y2
        exact absurd z (r.own b p a q (Option.some.inj y2).symm)
    · rw [rt_out (r.hard y id)]
      exact y
theorem RtOk.un (r : RtOk P w F H h) {fs ex : List Addr} : Un fs ex H (rt F H) h h where
  keep := fun b o e _ _ _ => e
  slot := fun b o e _ _ _ => ⟨o.slots, e⟩
  free := fun b o e n _ => by rw [rt_out (r.none n)]; exact n
  there := fun b o e _ => ⟨o, e⟩
  tups := fun b xs e => by rw [rt_out (r.hard e id)]; exact e
  frzs := fun b o u e => by rw [rt_out (r.hard e id)]; exact e
  tbls := fun b ps e => ⟨#[], by rw [rt_out (r.hard e id), Array.append_empty]; exact e⟩
theorem RtOk.inv {X : Cx} {pins : List (Addr × Obj)} {σ : L2.St} {H : Hp} {s : Shared} (r : RtOk X.prog X.w F H s.heap) (I : Inv X pins σ H s) : Inv X pins σ (rt F H) s := I.un (h' := s.heap) (t' := s.toks) r.un (r.hok I.hok)
section
variable {K : PySem.W.Frag} {mg : Str → Option Value} {base : Heap} {A : Around} {outer : List Env} {s s' : Shared} {u : Value}
theorem RtOk.env0 (r : RtOk P w F H s.heap) (e : Env0 P w K mg base A outer s H) : Env0 P w K mg base A outer s (rt F H) :=
  ⟨e.frames, e.mod, fun b o q => ⟨(e.bs b o q).1, by rw [rt_out (r.none (e.bs b o q).2)]; exact (e.bs b o q).2⟩, e.bsz, e.funs, fun b q => by rw [rt_out (r.none (e.frf b q))]; exact e.frf b q, r.hok e.hok, e.bare⟩
/-- news stand there -/
def News (F : Rt) (G : Hp) : Prop := ∀ a p, F a = some p → G a = some p.2
theorem ce_rt {Q : VK} (r : RtOk P w F H s.heap) (back : ∀ G h, HOk P w G h → News F G → RtOk P w F.sw G h) (c : CE outer P w (rt F H) s (fun v G => News F G ∧ Q v (rt F.sw G)) u s') : CE outer P w H s Q u s' := by
  obtain ⟨v, G, os, bare, un, hok', rv, nw, q⟩ := c
  have b := back G _ hok' nw
  refine ⟨v, rt F.sw G, os, bare, ⟨fun b o e e0 => un.keep b o e (by rw [rt_out (r.none e0)]; exact e0), fun b o e e0 => un.slot b o e (by rw [rt_out (r.none e0)]; exact e0), fun b o e e0 x => ?_, un.there, fun b xs e => ?_, fun b o u e => ?_, fun b ps e => ?_⟩, b.hok hok', rv, q⟩
  · rw [rtS_out (r.none e0)]
    exact un.free b o e (by rw [rt_out (r.none e0)]; exact e0) x
  · have z := r.hard e id
    rw [rtS_out z]
    exact un.tups b xs (by rw [rt_out z]; exact e)
  · have z := r.hard e id
    rw [rtS_out z]
    exact un.frzs b o u (by rw [rt_out z]; exact e)
  · have z := r.hard e id
    rw [rtS_out z]
    exact un.tbls b ps (by rw [rt_out z]; exact e)
theorem cx_rt {E : XK} (r : RtOk P w F H s.heap) (back : ∀ G h, HOk P w G h → News F G → RtOk P w F.sw G h) (c : L2.CX P w outer (rt F H) s (fun c d G => News F G ∧ E c d (rt F.sw G)) u s') : L2.CX P w outer H s E u s' := by
  obtain ⟨a, B, G, cls, d, eu, fl, hok', ub, na, os, bare, nw, q⟩ := c
  have b := back G _ hok' nw
  refine ⟨a, B, rt F.sw G, cls, d, eu, fl, b.hok hok', ⟨fun b o e e0 => ub.keep b o e (by rw [rt_out (r.none e0)]; exact e0), ub.slot, fun b o e e0 => ?_, ub.there, fun b xs e => ?_, fun b o u e => ?_, fun b ps e => ?_⟩, ?_, os, bare, q⟩
  · rw [rtS_out (r.none e0)]
    exact ub.free b o e (by rw [rt_out (r.none e0)]; exact e0)
  · have z := r.hard e id
    rw [rtS_out z]
    exact ub.tups b xs (by rw [rt_out z]; exact e)
  · have z := r.hard e id
    rw [rtS_out z]
    exact ub.frzs b o u (by rw [rt_out z]; exact e)
  · have z := r.hard e id
    rw [rtS_out z]
    exact ub.tbls b ps (by rw [rt_out z]; exact e)
  · rw [rtS_out]
    · exact na
    cases z : F a with
    | none => rfl
    | some p => rw [nw a p z] at na; cases na
end
end
end Aim

namespace Aim
open PySem PySem.Spec PyProof.Rows L2
open LamX (TabB Tabs CodeO)
open Stt (cnt sto)
/-! ### states with a store: instances, their dicts, lists that they alone hold -/
structure WfS (st : Sto) (ow : Addr → Option (Addr × Nat)) : Prop where
  dict : ∀ a C dx es, st a = some (.inst C dx, es) → ∃ ks ds, st dx = some (.ins ks, ds)
  owner : ∀ dx ks ds, st dx = some (.ins ks, ds) → ∃ a C es, st a = some (.inst C dx, es)
  one : ∀ a b C D dx es fs, st a = some (.inst C dx, es) → st b = some (.inst D dx, fs) → a = b
  lst : ∀ l dx i, ow l = some (dx, i) → (∃ c, st l = some (.lst, c)) ∧ ∃ ks ds, st dx = some (.ins ks, ds) ∧ ds[i]? = some (Dat.ref l)
structure SS where
  n : Nat
  st : Sto
  ow : Addr → Option (Addr × Nat)
  wf : WfS st ow
def SS.put (s : SS) (k : Nat) : SS := ⟨k, s.st, s.ow, s.wf⟩
instance sttSS : Stt SS := ⟨SS.n, SS.st, SS.put, fun _ _ => rfl, fun _ _ => rfl⟩
section
variable {K : PySem.W.Frag} {H : Hp} {s : SS}
open Classical in
/-- the values that stand in the store's thing at a -/
noncomputable def xsOf (K : PySem.W.Frag) (s : SS) (H : Hp) (a : Addr) : List V :=
  if h : ∃ xs sh ds, s.st a = some (sh, ds) ∧ H a = some (OwnS sh xs a) ∧ shW sh xs ds ∧ SeesL K s H xs ds then h.choose else []
theorem xsOf_ok (t : StoOk K s H) {a : Addr} {sh : Shp} {ds : List Dat} (e : s.st a = some (sh, ds)) : H a = some (OwnS sh (xsOf K s H a) a) ∧ shW sh (xsOf K s H a) ds ∧ SeesL K s H (xsOf K s H a) ds := by
  have h : ∃ xs sh ds, s.st a = some (sh, ds) ∧ H a = some (OwnS sh xs a) ∧ shW sh xs ds ∧ SeesL K s H xs ds := by
    obtain ⟨xs, h1, h2, h3⟩ := t.ok a sh ds e
    exact ⟨xs, sh, ds, e, h1, h2, h3⟩
  unfold xsOf
  rw [dif_pos h]
  obtain ⟨sh', ds', e', h1, h2, h3⟩ := h.choose_spec
  rw [e] at e'
  cases e'
  exact ⟨h1, h2, h3⟩
open Classical in
noncomputable def ownerOf (s : SS) (dx : Addr) : Addr := if h : ∃ a C es, s.st a = some (.inst C dx, es) then h.choose else 0
theorem ownerOf_eq {a C dx : Addr} {es : List Dat} (e : s.st a = some (.inst C dx, es)) : ownerOf s dx = a := by
  have h : ∃ a C es, s.st a = some (.inst C dx, es) := ⟨a, C, es, e⟩
  unfold ownerOf
  rw [dif_pos h]
  obtain ⟨D, fs, e'⟩ := h.choose_spec
  exact s.wf.one _ _ _ _ _ _ _ e' e
/-- the fields' names of the dict at dx -/
def ksOf (s : SS) (dx : Addr) : List Str := match s.st dx with
  | some (.ins ks, _) => ks
  | _ => []
/-- the store told as things that stand -/
noncomputable def frF (K : PySem.W.Frag) (s : SS) (H : Hp) : Rt := fun a => match s.st a with
  | none => none
  | some (.lst, _) => some (OwnS .lst (xsOf K s H a) a, .lst (xsOf K s H a))
  | some (.inst C dx, _) => some (HidX C dx a, .ins C dx ((ksOf s dx).zip (xsOf K s H dx)))
  | some (.ins ks, _) => some (OwnS (.ins ks) (xsOf K s H a) a, .own (ownerOf s a))
theorem frF_none {a : Addr} : frF K s H a = none ↔ s.st a = none := by
  unfold frF
  cases e : s.st a with
  | none => simp
  | some p =>
    obtain ⟨sh, ds⟩ := p
    cases sh <;> simp
theorem frF_old (t : StoOk K s H) {a : Addr} {p : HO × HO} (e : frF K s H a = some p) : ∃ sh ds, s.st a = some (sh, ds) ∧ p.1 = OwnS sh (xsOf K s H a) a := by
  cases z : s.st a with
  | none => rw [frF_none.mpr z] at e; cases e
  | some q =>
    obtain ⟨sh, ds⟩ := q
    refine ⟨sh, ds, rfl, ?_⟩
    unfold frF at e
    rw [z] at e
    cases sh with
    | lst => cases e; rfl
    | ins ks => cases e; rfl
    | inst C dx =>
      cases e
      obtain ⟨_, w, _⟩ := xsOf_ok t z
      obtain ⟨w, _⟩ : xsOf K s H a = [] ∧ _ := w
      rw [w]
theorem frF_at (t : StoOk K s H) {a : Addr} {p : HO × HO} (e : frF K s H a = some p) : H a = some p.1 := by
  obtain ⟨sh, ds, h1, h2⟩ := frF_old t e
  rw [h2]
  exact (xsOf_ok t h1).1
theorem frF_ok {P : Program} {w : World} {h : Heap} (t : StoOk K s H) (hok : HOk P w H h) : RtOk P w (frF K s H) H h where
  at_ := fun a p e => frF_at t e
  soft := fun a p e => by
    obtain ⟨sh, ds, _, h2⟩ := frF_old t e
    rw [h2]
    unfold OwnS
    exact trivial
  own := fun a p b e h => by
    obtain ⟨sh, ds, _, h2⟩ := frF_old t e
    rw [h2] at h
    unfold OwnS at h
    cases h
  ok := fun a p e => by
    cases z : s.st a with
    | none => rw [frF_none.mpr z] at e; cases e
    | some q =>
      obtain ⟨sh, ds⟩ := q
      have e0 := e
      unfold frF at e
      rw [z] at e
      cases sh with
      | lst =>
        cases e
        exact OwnO.at hok (xsOf_ok t z).1
      | ins ks =>
        cases e
        obtain ⟨_, ⟨o, es, ep, q, _⟩, _⟩ := OwnS.at hok (xsOf_ok t z).1
        exact ⟨o, q⟩
      | inst C dx =>
        cases e
        obtain ⟨ks, es, ed⟩ := s.wf.dict _ _ _ _ z
        obtain ⟨hd, wd, sd⟩ := xsOf_ok t ed
        obtain ⟨⟨l1, l2⟩, ⟨o, es', ep, q, d⟩, mA, ns, r, wi⟩ := OwnS.at hok hd
        obtain ⟨hx, wx, _⟩ := xsOf_ok t z
        have hx2 : h.get? a = some (PySem.W.instObj C dx) := OwnS.at hok hx
        have ne : dx ≠ a := fun y => by
          rw [y, z] at ed
          cases ed
        have ek : ksOf s dx = ks := by unfold ksOf; rw [ed]
        refine ⟨?_, ?_, ne, hx2, mA, ns, ?_, ?_⟩
        · have y : frF K s H dx = some (OwnS (.ins ks) (xsOf K s H dx) dx, .own (ownerOf s dx)) := by
            unfold frF
            rw [ed]
          rw [rt_in y, ownerOf_eq z]
        · rw [ek, List.length_zip, l1, Nat.min_self]
          exact l2
        · rw [ek]
          exact r
        · rw [ek]
          exact wi
theorem frF_back {P : Program} {w : World} {G : Hp} {h : Heap} (t : StoOk K s H) (hok : HOk P w G h) (nw : News (frF K s H) G) : RtOk P w (frF K s H).sw G h where
  at_ := fun a q e => nw a _ (sw_of e)
  soft := fun a q e => by
    have e1 := sw_of e
    cases z : s.st a with
    | none => rw [frF_none.mpr z] at e1; cases e1
    | some q =>
      obtain ⟨sh, ds⟩ := q
      unfold frF at e1
      rw [z] at e1
      cases sh <;> (injection e1 with e1; injection e1 with _ e1; rw [← e1]; exact trivial)
  own := fun a q b e h y => by
    have e1 := sw_of e
    cases z : s.st a with
    | none => rw [frF_none.mpr z] at e1; cases e1
    | some q =>
      obtain ⟨sh, ds⟩ := q
      unfold frF at e1
      rw [z] at e1
      cases sh with
      | lst => injection e1 with e1; injection e1 with _ e1; rw [← e1] at h; cases h
      | inst C dx => injection e1 with e1; injection e1 with _ e1; rw [← e1] at h; cases h
      | ins ks =>
        injection e1 with e1; injection e1 with _ e1; rw [← e1] at h
        cases h
        obtain ⟨x, C, es, ex⟩ := s.wf.owner _ _ _ z
        rw [ownerOf_eq ex] at y
        have y2 : frF K s H x = none := by
          cases q : frF K s H x with
          | none => rfl
          | some p => rw [sw_in q] at y; cases y
        rw [frF_none.mp y2] at ex
        cases ex
  ok := fun a q e => by
    have e1 := sw_of e
    have hG := hok _ _ (nw a _ e1)
    obtain ⟨sh, ds, z, h1⟩ := frF_old t e1
    have h1 : q.2 = OwnS sh (xsOf K s H a) a := h1
    rw [h1]
    unfold frF at e1
    rw [z] at e1
    cases sh with
    | lst =>
      injection e1 with e1; injection e1 with _ e1
      rw [← e1] at hG
      obtain ⟨l, its, n, r, q⟩ := hG
      exact OwnO.ok l r q
    | inst C dx =>
      injection e1 with e1; injection e1 with _ e1
      rw [← e1] at hG
      obtain ⟨_, _, _, hg, _⟩ := hG
      exact ⟨hg, ⟨_, hg⟩, fun h1 h2 q f => f _ q⟩
    | ins ks =>
      obtain ⟨x, C, es, ex⟩ := s.wf.owner _ _ _ z
      have y : frF K s H x = some (HidX C a x, .ins C a ((ksOf s a).zip (xsOf K s H a))) := by
        unfold frF
        rw [ex]
      have ek : ksOf s a = ks := by unfold ksOf; rw [z]
      have hX := hok _ _ (nw x _ y)
      rw [ek] at hX
      obtain ⟨ho, hl, ne, hg, mA, ns, r, wi⟩ := hX
      obtain ⟨hd, wd, _⟩ := xsOf_ok t z
      have wd : ks.length = (xsOf K s H a).length := wd
      refine OwnS.insOk ⟨⟨wd, ?_⟩, ?_, mA, ns, r, wi⟩
      · rw [List.length_zip, wd, Nat.min_self] at hl
        exact hl
      · obtain ⟨o, es, ep, e1, e2, _⟩ := ns.ns
        exact ⟨o, es, _, e1, e2⟩
end
/-! ### what is seen, of a store that is told as things that stand -/
section
variable {S U : Type} [Stt S] [Stt U] {K : PySem.W.Frag} {n : S} {m : U} {H : Hp}
mutual
theorem Sees.cast (e : cnt n ≤ cnt m) : ∀ {v : V} {d : Dat}, Sees K n H v d → Sees K m H v d
  | _, _, .non => .non
  | _, _, .bl b => .bl b
  | _, _, .int i => .int i
  | _, _, .str x l => .str x l
  | _, _, .byt x l => .byt x l
  | _, _, .ty x => .ty x
  | _, _, .ref a => .ref a
  | _, _, .pot h l => .pot h (Nat.le_trans l e)
  | _, _, .tup hs l ha => .tup hs l (SeesL.cast e ha)
  | _, _, .lst hs l ha => .lst hs l (SeesL.cast e ha)
  | _, _, .scr hs => .scr hs
  | _, _, .dct hs hk ha => .dct hs hk (SeesL.cast e ha)
  | _, _, .obj hs hk ha => .obj hs hk (SeesL.cast e ha)
  | _, _, .exc h1 h2 h3 => .exc h1 h2 (Sees.cast e h3)
theorem SeesL.cast (e : cnt n ≤ cnt m) : ∀ {vs : List V} {ds : List Dat}, SeesL K n H vs ds → SeesL K m H vs ds
  | _, _, .nil => .nil
  | _, _, .cons h r => .cons (Sees.cast e h) (SeesL.cast e r)
end
end
mutual
inductive FrzD (s : SS) : Dat → Dat → Prop
  | same (d : Dat) : FrzD s d d
  | obj {a C dx : Addr} {es : List Dat} {ks : List Str} {ds ds' : List Dat} : s.st a = some (.inst C dx, es) → s.st dx = some (.ins ks, ds) → FrzL s ds ds' → FrzD s (.ref a) (.obj C ks ds')
  | own {l : Addr} {ds ds' : List Dat} : s.st l = some (.lst, ds) → FrzL s ds ds' → FrzD s (.ref l) (.lst ds')
  | tup {ds ds' : List Dat} : FrzL s ds ds' → FrzD s (.tup ds) (.tup ds')
  | lst {ds ds' : List Dat} : FrzL s ds ds' → FrzD s (.lst ds) (.lst ds')
  | exc {C : Addr} {d d' : Dat} : FrzD s d d' → FrzD s (.exc C d) (.exc C d')
inductive FrzL (s : SS) : List Dat → List Dat → Prop
  | nil : FrzL s [] []
  | cons {d d' : Dat} {ds ds' : List Dat} : FrzD s d d' → FrzL s ds ds' → FrzL s (d :: ds) (d' :: ds')
end
section
variable {K : PySem.W.Frag} {H : Hp} {s : SS}
theorem frF_perm (t : StoOk K s H) {a : Addr} {o : HO} (e : H a = some o) (p : Perm a o) : frF K s H a = none := by
  cases z : frF K s H a with
  | none => rfl
  | some q =>
    obtain ⟨sh, ds, _, h⟩ := frF_old t z
    have y := frF_at t z
    rw [e, h] at y
    exact absurd (Option.some.inj y) (p.2.1 _)
theorem frF_pot (t : StoOk K s H) {a : Addr} {k : Nat} (e : H a = some (PotO k a)) : frF K s H a = none := by
  cases z : frF K s H a with
  | none => rfl
  | some q =>
    obtain ⟨sh, ds, _, h⟩ := frF_old t z
    have y := frF_at t z
    rw [e, h] at y
    exact absurd (Option.some.inj y).symm own_pot
theorem Frb.frz (t : StoOk K s H) : Frb s H s (rt (frF K s H) H) := ⟨Nat.le_refl _, fun b o e p => by rw [rt_out (frF_perm t e p)]; exact e, fun b k l e => ⟨k, l, by rw [rt_out (frF_pot t e)]; exact e⟩⟩
theorem FrzL.len : ∀ {ds ds' : List Dat}, FrzL s ds ds' → ds.length = ds'.length
  | _, _, .nil => rfl
  | _, _, .cons _ r => congrArg (· + 1) r.len
mutual
theorem Sees.frz (t : StoOk K s H) : ∀ {v : V} {d d' : Dat}, FrzD s d d' → Sees K s H v d → Sees K s.n (rt (frF K s H) H) v d'
  | v, _, _, .same d => fun h => (h.monoB (.frz t)).cast (m := s.n) (show Stt.cnt s ≤ Stt.cnt s.n from Nat.le_refl s.n)
  | v, _, _, .obj (a := a) (C := C) (dx := dx) (ks := ks) h1 h2 h3 => fun h => by
    rw [h.ref_iff]
    obtain ⟨hd, wd, sd⟩ := xsOf_ok t h2
    have wd : ks.length = (xsOf K s H dx).length := wd
    have ek : ksOf s dx = ks := by unfold ksOf; rw [h2]
    have y : frF K s H a = some (HidX C dx a, .ins C dx ((ksOf s dx).zip (xsOf K s H dx))) := by
      unfold frF
      rw [h1]
    rw [ek] at y
    exact .obj (rt_in y) wd (SeesL.frz t h3 sd)
  | v, _, _, .own (l := l) h1 h3 => fun h => by
    rw [h.ref_iff]
    obtain ⟨hd, wd, sd⟩ := xsOf_ok t h1
    have y : frF K s H l = some (OwnS .lst (xsOf K s H l) l, .lst (xsOf K s H l)) := by
      unfold frF
      rw [h1]
    exact .lst (rt_in y) wd (SeesL.frz t h3 sd)
  | v, _, _, .tup h1 => fun h => by
    cases h with
    | tup hs l ha => exact .tup ((Frb.frz t).sqN hs) l (SeesL.frz t h1 ha)
  | v, _, _, .lst h1 => fun h => by
    cases h with
    | lst hs l ha => exact .lst ((Frb.frz t).keep _ _ hs (perm_ext (fun _ z => nomatch z) fun _ z => nomatch z)) l (SeesL.frz t h1 ha)
  | v, _, _, .exc h0 => fun h => by
    cases h with
    | exc h1 h2 h3 => exact .exc ((Frb.frz t).keep _ _ h1 perm_xcv) ((Frb.frz t).xd h2) (Sees.frz t h0 h3)
theorem SeesL.frz (t : StoOk K s H) : ∀ {vs : List V} {ds ds' : List Dat}, FrzL s ds ds' → SeesL K s H vs ds → SeesL K s.n (rt (frF K s H) H) vs ds'
  | _, _, _, .nil => fun h => by cases h; exact .nil
  | _, _, _, .cons h r => fun z => by
    cases z with
    | cons z1 z2 => exact .cons (Sees.frz t h z1) (SeesL.frz t r z2)
end
end
end Aim

namespace Aim
open PySem PySem.Spec PyProof.Rows L2
open LamX (TabB Tabs CodeO)
open Stt (cnt sto)
/-! ### data that the store has no part in -/
mutual
def calmS (ok : Addr → Prop) : Dat → Prop
  | .non => True | .bl _ => True | .int _ => True | .str _ => True | .byt _ => True | .ty _ => True | .ref _ => True | .pot => True
  | .tup xs => calmsS ok xs
  | .dct _ xs => calmsS ok xs
  | .exc _ d => calmS ok d
  | .obj C _ xs => ok C ∧ calmsS ok xs
  | .lst _ => False
  | .scr _ => False
def calmsS (ok : Addr → Prop) : List Dat → Prop
  | [] => True
  | d :: ds => calmS ok d ∧ calmsS ok ds
end
theorem calmsS_iff {ok : Addr → Prop} : ∀ {ds : List Dat}, calmsS ok ds ↔ ∀ d ∈ ds, calmS ok d
  | [] => by simp [calmsS]
  | d :: ds => by
    rw [calmsS, calmsS_iff (ds := ds)]
    simp
def Kp (ok : Addr → Prop) (o : HO) : Prop := (∀ C dx fs, o = .ins C dx fs → ok C) ∧ (∀ x, o ≠ .own x) ∧ ∀ xs, o ≠ .lst xs
section
variable {S U : Type} [Stt S] [Stt U]
structure ThawB (ok : Addr → Prop) (n : U) (G : Hp) (m : S) (G' : Hp) : Prop where
  le : cnt n ≤ cnt m
  keep : ∀ a o, G a = some o → Kp ok o → G' a = some o
variable {K : PySem.W.Frag} {ok : Addr → Prop} {n : U} {G : Hp} {m : S} {G' : Hp}
theorem kp_ext {o : HO} (h1 : ∀ C dx fs, o ≠ .ins C dx fs) (h2 : ∀ x, o ≠ .own x) (h3 : ∀ xs, o ≠ .lst xs) : Kp ok o := ⟨fun C dx fs z => absurd z (h1 C dx fs), h2, h3⟩
theorem ThawB.sqN (e : ThawB ok n G m G') {a : Addr} {xs : List V} (h : SqN K G a xs) : SqN K G' a xs := h.imp (fun ⟨o, h, z⟩ => ⟨o, e.keep _ _ h (kp_ext (fun _ _ _ z => nomatch z) (fun _ z => nomatch z) fun _ z => nomatch z), z⟩) id
theorem ThawB.dct (e : ThawB ok n G m G') {a : Addr} {kvs : List (Key × V)} (h : Rd G a (.dK kvs)) : Rd G' a (.dK kvs) := h.imp (fun h => e.keep _ _ h (kp_ext (fun _ _ _ z => nomatch z) (fun _ z => nomatch z) fun _ z => nomatch z)) fun ⟨o, h⟩ => ⟨o, e.keep _ _ h (kp_ext (fun _ _ _ z => nomatch z) (fun _ z => nomatch z) fun _ z => nomatch z)⟩
theorem ThawB.obj (e : ThawB ok n G m G') {a C dx : Addr} {fs : List (Str × V)} (h : G a = some (.ins C dx fs)) (c : ok C) : G' a = some (.ins C dx fs) := e.keep _ _ h ⟨fun D dy gs z => (by cases z; exact c), (fun _ z => nomatch z), fun _ z => nomatch z⟩
theorem ThawB.ext (e : ThawB ok n G m G') {a : Addr} {φ : Heap → Prop} (h : G a = some (.ext φ)) : G' a = some (.ext φ) := e.keep _ _ h (kp_ext (fun _ _ _ z => nomatch z) (fun _ z => nomatch z) fun _ z => nomatch z)
theorem ThawB.xd (e : ThawB ok n G m G') {a : Addr} {fs : List (Str × V)} (h : G a = some (.xd fs)) : G' a = some (.xd fs) := e.keep _ _ h (kp_ext (fun _ _ _ z => nomatch z) (fun _ z => nomatch z) fun _ z => nomatch z)
theorem ThawB.pot (e : ThawB ok n G m G') {a : Addr} {k : Nat} (h : G a = some (PotO k a)) : G' a = some (PotO k a) := e.ext h
theorem ThawB.xcv (e : ThawB ok n G m G') {a : Addr} {c : Value} {d : Option Addr} (h : G a = some (XcV c d a)) : G' a = some (XcV c d a) := e.ext h
mutual
theorem Sees.thawB (e : ThawB ok n G m G') : ∀ {v : V} {d : Dat}, Sees K n G v d → calmS ok d → Sees K m G' v d
  | _, _, .non => fun _ => .non
  | _, _, .bl b => fun _ => .bl b
  | _, _, .int i => fun _ => .int i
  | _, _, .str x l => fun _ => .str x l
  | _, _, .byt x l => fun _ => .byt x l
  | _, _, .ty x => fun _ => .ty x
  | _, _, .ref a => fun _ => .ref a
  | _, _, .pot h l => fun _ => .pot (e.pot h) (Nat.le_trans l e.le)
  | _, _, .tup hs l ha => fun c => .tup (e.sqN hs) l (SeesL.thawB e ha c)
  | _, _, .lst _ _ _ => fun c => c.elim
  | _, _, .scr _ => fun c => c.elim
  | _, _, .dct hs hk ha => fun c => .dct (e.dct hs) hk (SeesL.thawB e ha c)
  | _, _, .obj hs hk ha => fun c => .obj (e.obj hs c.1) hk (SeesL.thawB e ha c.2)
  | _, _, .exc h1 h2 h3 => fun c => .exc (e.xcv h1) (e.xd h2) (Sees.thawB e h3 c)
theorem SeesL.thawB (e : ThawB ok n G m G') : ∀ {vs : List V} {ds : List Dat}, SeesL K n G vs ds → calmsS ok ds → SeesL K m G' vs ds
  | _, _, .nil => fun _ => .nil
  | _, _, .cons h r => fun c => .cons (Sees.thawB e h c.1) (SeesL.thawB e r c.2)
end
end
/-- C is no class of the store's instances -/
def offS (s : SS) (C : Addr) : Prop := ∀ a D dx es, s.st a = some (.inst D dx, es) → D ≠ C
section
variable {K : PySem.W.Frag} {TT : List (Addr × Str)} {H G : Hp} {s : SS} {m : Nat}
/-- what stands in G, once more told as the store -/
theorem frF_new (t : StoOk K s H) {a : Addr} {p : HO × HO} (e : frF K s H a = some p) : (∃ C dx fs es, s.st a = some (.inst C dx, es) ∧ p.2 = .ins C dx fs) ∨ (∃ x, p.2 = .own x) ∨ ∃ xs, p.2 = .lst xs := by
  cases z : s.st a with
  | none => rw [frF_none.mpr z] at e; cases e
  | some q =>
    obtain ⟨sh, ds⟩ := q
    unfold frF at e
    rw [z] at e
    cases sh with
    | lst => cases e; exact .inr (.inr ⟨_, rfl⟩)
    | ins ks => cases e; exact .inr (.inl ⟨_, rfl⟩)
    | inst C dx => cases e; exact .inl ⟨C, dx, _, _, rfl, rfl⟩
/-- a thing of G that is none of the store's -/
theorem frF_out (t : StoOk K s H) (nw : News (frF K s H) G) {a : Addr} {o : HO} (e : G a = some o) (h1 : ∀ C dx fs, o = .ins C dx fs → offS s C) (h2 : ∀ x, o ≠ .own x) (h3 : ∀ xs, o ≠ .lst xs) : frF K s H a = none := by
  cases z : frF K s H a with
  | none => rfl
  | some p =>
    have y := nw a p z
    rw [e] at y
    cases y
    rcases frF_new t z with ⟨C, dx, fs, es, q1, q2⟩ | ⟨x, q⟩ | ⟨xs, q⟩
    · exact absurd rfl (h1 C dx fs q2 _ _ _ _ q1)
    · exact absurd q (h2 x)
    · exact absurd q (h3 xs)
theorem keepS (t : StoOk K s H) (nw : News (frF K s H) G) {a : Addr} {o : HO} (e : G a = some o) (h1 : ∀ C dx fs, o = .ins C dx fs → offS s C) (h2 : ∀ x, o ≠ .own x) (h3 : ∀ xs, o ≠ .lst xs) : rt (frF K s H).sw G a = some o := by
  rw [rtS_out (frF_out t nw e h1 h2 h3)]
  exact e
theorem Sees.thaw (t : StoOk K s H) (nw : News (frF K s H) G) {v : V} {d : Dat} (h : Sees K m G v d) (c : calmS (offS s) d) : Sees K (s.put m) (rt (frF K s H).sw G) v d := h.thawB (m := s.put m) ⟨Nat.le_refl m, fun a o e k => keepS t nw e k.1 k.2.1 k.2.2⟩ c
theorem SeesL.thaw (t : StoOk K s H) (nw : News (frF K s H) G) {vs : List V} {ds : List Dat} (h : SeesL K m G vs ds) (c : calmsS (offS s) ds) : SeesL K (s.put m) (rt (frF K s H).sw G) vs ds := h.thawB (m := s.put m) ⟨Nat.le_refl m, fun a o e k => keepS t nw e k.1 k.2.1 k.2.2⟩ c
theorem tabs_rt {F : Rt} (tb : Tabs TT H) (hF : ∀ a o, H a = some o → ((∃ ps, o = .tbl ps) ∨ ∃ q, o = CodeO a q) → F a = none) : Tabs TT (rt F H) := fun x hx => by
  obtain ⟨ps, h1, h2, h3⟩ := tb x hx
  refine ⟨ps, by rw [rt_out (hF _ _ h1 (.inl ⟨_, rfl⟩))]; exact h1, h2, fun pos cv hc => ?_⟩
  obtain ⟨c, e1, e2⟩ := h3 pos cv hc
  exact ⟨c, e1, by rw [rt_out (hF _ _ e2 (.inr ⟨_, rfl⟩))]; exact e2⟩
theorem tabs_frz (t : StoOk K s H) (tb : Tabs TT H) : Tabs TT (rt (frF K s H) H) := tabs_rt tb fun a o e h => by
  cases z : frF K s H a with
  | none => rfl
  | some q =>
    obtain ⟨sh, ds, _, y⟩ := frF_old t z
    have w := frF_at t z
    rw [e, y] at w
    rcases h with ⟨ps, rfl⟩ | ⟨q, rfl⟩
    · unfold OwnS at w
      cases w
    · exact absurd (Option.some.inj w) own_code
theorem tabs_thaw (t : StoOk K s H) (nw : News (frF K s H) G) (tb : Tabs TT G) : Tabs TT (rt (frF K s H).sw G) := tabs_rt tb fun a o e h => by
  refine sw_out (frF_out t nw e (fun C dx fs z => ?_) (fun x z => ?_) fun xs z => ?_) <;>
    (subst z; rcases h with ⟨ps, z⟩ | ⟨q, z⟩ <;> first | (cases z; done) | (unfold CodeO at z; cases z))
/-- news last -/
theorem news_frz (t : StoOk K s H) : News (frF K s H) (rt (frF K s H) H) := fun a p e => rt_in e
theorem news_fra (t : StoOk K s H) (e : Frb s.n (rt (frF K s H) H) m G) : News (frF K s H) G := fun a p z => by
  refine e.keep a _ (rt_in z) ?_
  rcases frF_new t z with ⟨C, dx, fs, es, _, q⟩ | ⟨x, q⟩ | ⟨xs, q⟩
  all_goals
    rw [q]
    exact perm_ext (fun _ z => nomatch z) fun _ z => nomatch z
theorem Frb.thaw (t : StoOk K s H) (e : Frb s.n (rt (frF K s H) H) m G) : Frb s H (s.put m) (rt (frF K s H).sw G) := ⟨e.le, fun b o h p => by
  have z := frF_perm t h p
  rw [rtS_out z]
  exact e.keep b o (by rw [rt_out z]; exact h) p, fun b k l h => by
  have z := frF_pot t h
  rw [rtS_out z]
  exact e.pot b k l (by rw [rt_out z]; exact h)⟩
theorem StoOk.thaw (t : StoOk K s H) (e : Frb s.n (rt (frF K s H) H) m G) : StoOk K (s.put m) (rt (frF K s H).sw G) := ⟨fun a sh ds q => by
  obtain ⟨h1, h2, h3⟩ := xsOf_ok t (show s.st a = some (sh, ds) from q)
  refine ⟨_, ?_, h2, h3.monoB (.thaw t e)⟩
  have q : s.st a = some (sh, ds) := q
  cases z : frF K s H a with
  | none => rw [frF_none.mp z] at q; cases q
  | some p =>
    obtain ⟨sh', ds', q', y⟩ := frF_old t z
    rw [q] at q'
    cases q'
    rw [rtS_in z, y]⟩
theorem Fra.thaw (t : StoOk K s H) (e : Fra K TT s.n (rt (frF K s H) H) m G) : Fra K TT s H (s.put m) (rt (frF K s H).sw G) :=
  ⟨.thaw t e.toFrb, fun tb => tabs_thaw t (news_fra t e.toFrb) (e.tab (tabs_frz t tb)), fun _ => .thaw t e.toFrb⟩
theorem Fre.thaw (t : StoOk K s H) (e : Fre K TT s.n (rt (frF K s H) H) m G) : Fre K TT s H (s.put m) (rt (frF K s H).sw G) :=
  ⟨.thaw t e.toFra, fun b xs h z => by
    have y : frF K s H b = none := frF_none.mpr z
    rw [rtS_out y]
    exact ⟨(e.own b xs (by rw [rt_out y]; exact h) rfl).1, z⟩⟩
/-! ### slots -/
inductive FrzSl (s : SS) : Sl → Sl → Prop
  | same (a : Sl) : FrzSl s a a
  | no (a : Sl) : FrzSl s a .no
  | val {d d' : Dat} : FrzD s d d' → FrzSl s (.val d) (.val d')
inductive FrzSls (s : SS) : List Sl → List Sl → Prop
  | nil : FrzSls s [] []
  | cons {a b : Sl} {as bs : List Sl} : FrzSl s a b → FrzSls s as bs → FrzSls s (a :: as) (b :: bs)
theorem FrzSls.len {as bs : List Sl} (h : FrzSls s as bs) : as.length = bs.length := by
  induction h with
  | nil => rfl
  | cons _ _ ih => exact congrArg (· + 1) ih
theorem FrzSls.get {as bs : List Sl} (h : FrzSls s as bs) : ∀ {i : Nat} {b : Sl}, bs[i]? = some b → ∃ a, as[i]? = some a ∧ FrzSl s a b := by
  induction h with
  | nil => intro i b e; simp at e
  | cons h _ ih =>
    intro i b e
    cases i with
    | zero => simp at e; subst e; exact ⟨_, rfl, h⟩
    | succ i => obtain ⟨a, e1, e2⟩ := ih (by simpa using e); exact ⟨a, by simpa using e1, e2⟩
theorem SlR.frz (t : StoOk K s H) {a b : Sl} {o : Option V} (f : FrzSl s a b) (h : SlR K s H a o) : SlR K s.n (rt (frF K s H) H) b o := by
  have castL : ∀ {vs : List V} {ds : List Dat}, SeesL K s H vs ds → SeesL K s.n (rt (frF K s H) H) vs ds := fun h => (h.monoB (.frz t)).cast (m := s.n) (show Stt.cnt s ≤ Stt.cnt s.n from Nat.le_refl s.n)
  cases f with
  | no => exact .no
  | val f =>
    cases h with
    | val h => exact .val (h.frz t f)
  | same =>
    cases h with
    | no => exact .no
    | val h => exact .val (h.frz t (.same _))
    | own l h1 hs h2 => exact .own l (by rw [rt_out (frF_none.mpr hs)]; exact h1) rfl (castL h2)
    | ins l h1 h2 hs h3 => exact .ins l (by rw [rt_out (frF_none.mpr hs.1)]; exact h1) (by rw [rt_out (frF_none.mpr hs.2)]; exact h2) ⟨rfl, rfl⟩ (castL h3)
theorem Rel.frz {ρ ρ' : List Sl} {σ : L2.St} (r : Rel K ρ s σ H) (f : FrzSls s ρ ρ') : Rel K ρ' s.n σ (rt (frF K s H) H) :=
  ⟨by rw [← f.len]; exact r.len, fun i b e => by
    obtain ⟨a, e1, e2⟩ := f.get e
    obtain ⟨o, e3, q⟩ := r.sl i a e1
    exact ⟨o, e3, q.frz r.st e2⟩, fun i j a b ne h1 h2 => by
    have key : ∀ i a, Owns ρ' σ i a → Owns ρ σ i a := fun i a ⟨⟨ds, e1⟩, e2⟩ => by
      obtain ⟨c, e3, e4⟩ := f.get e1
      cases e4 with
      | same => exact ⟨⟨ds, e3⟩, e2⟩
    exact r.ap i j a b ne (key _ _ h1) (key _ _ h2), .nat⟩
end
/-! ### an expression run on what stands -/
def dNat (f : DE) : GDE SS := fun ρ s P _ => ∃ ρ', FrzSls s ρ ρ' ∧ f ρ' s.n (fun d m => calmS (offS s) d ∧ P d (s.put m)) R0
def dNatT (f : DT) : GDT SS := fun ρ s P _ => ∃ ρ', FrzSls s ρ ρ' ∧ f ρ' s.n (fun b m => P b (s.put m)) R0
def dNatA (f : DA) : GDA SS := fun ρ s P _ => ∃ ρ', FrzSls s ρ ρ' ∧ f ρ' s.n (fun ds m => calmsS (offS s) ds ∧ P ds (s.put m)) R0
section
variable {X : Cx} {TT : List (Addr × Str)} {E : XK} {e : Expr} {es : List Expr}
theorem de_nat {f : DE} (h : PE X e (LE X.K TT E0 f)) : PE X e (LE X.K TT E (dNat f)) := ⟨fun pins sh σ H Q I ⟨ρ, s, P, R, rl, ⟨ρ', fz, q⟩, k, x⟩ => by
  have t := rl.st
  refine thn (h.run pins sh σ _ _ ((frF_ok t I.hok).inv I) ⟨ρ', s.n, _, R0, rl.frz fz, q, fun d m v G p e s' => (⟨d, m, e, s', p⟩ : ∃ d m, Fre X.K TT s.n (rt (frF X.K s H) H) m G ∧ Sees X.K m G v d ∧ calmS (offS s) d ∧ P d (s.put m)), .zero (tabs_frz t x.tab)⟩) fun u s1 z => ?_
  obtain ⟨v, G, I1, r, d, m, e, sv, c, p⟩ := z
  have nw := news_fra t e.toFrb
  exact ⟨v, rt (frF X.K s H).sw G, (frF_back t I1.hok nw).inv I1, r, k d _ v _ p (.thaw t e) (sv.thaw t nw c)⟩⟩
theorem dt_nat {f : DT} (h : PT X e (LTs X.K TT E0 f)) : PT X e (LTs X.K TT E (dNatT f)) := ⟨fun pins sh σ H Q I ⟨ρ, s, P, R, rl, ⟨ρ', fz, q⟩, k, x⟩ => by
  have t := rl.st
  refine thn (h.run pins sh σ _ _ ((frF_ok t I.hok).inv I) ⟨ρ', s.n, _, R0, rl.frz fz, q, fun b m G p e => (⟨m, e, p⟩ : ∃ m, Fre X.K TT s.n (rt (frF X.K s H) H) m G ∧ P b (s.put m)), .zero (tabs_frz t x.tab)⟩) fun u s1 z => ?_
  obtain ⟨G, I1, m, e, p⟩ := z
  have nw := news_fra t e.toFrb
  exact ⟨rt (frF X.K s H).sw G, (frF_back t I1.hok nw).inv I1, k u _ _ p (.thaw t e)⟩⟩
theorem da_nat {f : DA} (h : PA X es (LA X.K TT E0 f)) : PA X es (LA X.K TT E (dNatA f)) := ⟨fun pos pins sh σ H Q I ⟨ρ, s, P, R, rl, ⟨ρ', fz, q⟩, k, x⟩ => by
  have t := rl.st
  refine thn (h.run pos pins sh σ _ _ ((frF_ok t I.hok).inv I) ⟨ρ', s.n, _, R0, rl.frz fz, q, fun ds m vs G p e s' => (⟨ds, m, e, s', p⟩ : ∃ ds m, Fre X.K TT s.n (rt (frF X.K s H) H) m G ∧ SeesL X.K m G vs ds ∧ calmsS (offS s) ds ∧ P ds (s.put m)), .zero (tabs_frz t x.tab)⟩) fun u s1 z => ?_
  obtain ⟨v, G, I1, r, ds, m, e, sv, c, p⟩ := z
  have nw := news_fra t e.toFrb
  exact ⟨v, rt (frF X.K s H).sw G, (frF_back t I1.hok nw).inv I1, r, k ds _ v _ p (.thaw t e) (sv.thaw t nw c)⟩⟩
end
end Aim

namespace Aim
open PySem PySem.Spec PyProof.Rows L2
open LamX (TabB Tabs CodeO)
open Stt (cnt sto)
/-! ### the store by what its instances show -/
inductive Fv where
  | im (d : Dat) | ls (ds : List Dat)
def Fv.dat : Fv → Dat
  | .im d => d
  | .ls ds => .lst ds
def fvOf (s : SS) (dx : Addr) (i : Nat) (d : Dat) : Fv := match d with
  | .ref l => if s.ow l = some (dx, i) then (match s.st l with
    | some (.lst, c) => .ls c
    | _ => .im d) else .im d
  | _ => .im d
def fvsOf (s : SS) (dx : Addr) : Nat → List Dat → List Fv
  | _, [] => []
  | i, d :: ds => fvOf s dx i d :: fvsOf s dx (i + 1) ds
/-- the class, the fields' names and values of the instance at a -/
def vw (s : SS) (a : Addr) : Option (Addr × List Str × List Fv) := match s.st a with
  | some (.inst C dx, _) => (match s.st dx with
    | some (.ins ks, ds) => some (C, ks, fvsOf s dx 0 ds)
    | _ => none)
  | _ => none
theorem vw_of {s : SS} {a C : Addr} {ks : List Str} {fv : List Fv} (h : vw s a = some (C, ks, fv)) : ∃ dx es ds, s.st a = some (.inst C dx, es) ∧ s.st dx = some (.ins ks, ds) ∧ fv = fvsOf s dx 0 ds := by
  unfold vw at h
  split at h
  · rename_i C' dx es e1
    split at h
    · rename_i ks' ds e2
      cases h
      exact ⟨dx, es, ds, e1, e2, rfl⟩
    · cases h
  · cases h
theorem vw_mk {s : SS} {a C dx : Addr} {es : List Dat} {ks : List Str} {ds : List Dat} (h1 : s.st a = some (.inst C dx, es)) (h2 : s.st dx = some (.ins ks, ds)) : vw s a = some (C, ks, fvsOf s dx 0 ds) := by
  unfold vw
  rw [h1]
  dsimp only
  rw [h2]
theorem vw_none {s : SS} {a : Addr} (h : ∀ C dx es, s.st a ≠ some (.inst C dx, es)) : vw s a = none := by
  unfold vw
  split
  · rename_i C dx es e
    exact absurd e (h C dx es)
  · rfl
theorem offS_vw {s : SS} {C : Addr} (h : ∀ a D ks fv, vw s a = some (D, ks, fv) → D ≠ C) : offS s C := fun a D dx es e => by
  obtain ⟨ks, ds, e2⟩ := s.wf.dict _ _ _ _ e
  exact h a D ks _ (vw_mk e e2)
theorem instD_vw {s : SS} {a C : Addr} {ks : List Str} {fv : List Fv} (h : vw s a = some (C, ks, fv)) : instD C s (.ref a) := by
  obtain ⟨dx, es, ds, h1, h2, _⟩ := vw_of h
  exact ⟨dx, es, ks, ds, h1, h2⟩
theorem fvs_len {s : SS} {dx : Addr} : ∀ {ds : List Dat} (i : Nat), (fvsOf s dx i ds).length = ds.length
  | [], _ => rfl
  | _ :: ds, i => congrArg (· + 1) (fvs_len (ds := ds) (i + 1))
/-- frozen, by the view -/
inductive FrzF (s : SS) : List Fv → List Dat → Prop
  | nil : FrzF s [] []
  | im {d d' : Dat} {fs : List Fv} {ds : List Dat} : FrzD s d d' → FrzF s fs ds → FrzF s (.im d :: fs) (d' :: ds)
  | ls {c c' : List Dat} {fs : List Fv} {ds : List Dat} : FrzL s c c' → FrzF s fs ds → FrzF s (.ls c :: fs) (.lst c' :: ds)
theorem FrzL.refl {s : SS} : ∀ ds : List Dat, FrzL s ds ds
  | [] => .nil
  | d :: ds => .cons (.same d) (FrzL.refl ds)
theorem FrzF.all {s : SS} : ∀ fs : List Fv, FrzF s fs (fs.map Fv.dat)
  | [] => .nil
  | .im d :: fs => .im (.same d) (FrzF.all fs)
  | .ls c :: fs => .ls (.refl c) (FrzF.all fs)
theorem frzF_list {s : SS} {dx : Addr} : ∀ {ds : List Dat} {i : Nat} {ds' : List Dat}, FrzF s (fvsOf s dx i ds) ds' → FrzL s ds ds'
  | [], _, _, .nil => .nil
  | d :: ds, i, ds', h => by
    unfold fvsOf at h
    generalize e : fvOf s dx i d = y at h
    cases h with
    | im h1 h2 =>
      rename_i d0 _ _
      have : d = d0 := by
        unfold fvOf at e
        split at e
        · split at e
          · split at e <;> first | (injection e with e; done) | (cases e; done) | (cases e; rfl)
          · cases e; rfl
        · cases e; rfl
      subst this
      exact .cons h1 (frzF_list h2)
    | ls h1 h2 =>
      refine .cons ?_ (frzF_list h2)
      unfold fvOf at e
      split at e
      · split at e
        · split at e
          · rename_i c e2
            injection e with e
            subst e
            exact .own e2 h1
          · cases e
        · cases e
      · cases e
theorem FrzD.vw {s : SS} {a C : Addr} {ks : List Str} {fv : List Fv} {ds : List Dat} (h : Aim.vw s a = some (C, ks, fv)) (f : FrzF s fv ds) : FrzD s (.ref a) (.obj C ks ds) := by
  obtain ⟨dx, es, es', h1, h2, rfl⟩ := vw_of h
  exact .obj h1 h2 (frzF_list f)
/-- an instance told as it shows itself -/
theorem frz_vw {s : SS} {a C : Addr} {ks : List Str} {fv : List Fv} (h : vw s a = some (C, ks, fv)) : FrzD s (.ref a) (.obj C ks (fv.map Fv.dat)) := .vw h (.all fv)
/-! ### a new list, made on what stands -/
def dNatL (f : DA) : GDA SS := fun ρ s P _ => ∃ ρ', FrzSls s ρ ρ' ∧ f ρ' s.n (fun ds m => calmsS (offS s) ds ∧ P ds (s.put m)) R0
section
variable {X : Cx} {TT : List (Addr × Str)} {E : XK} {e : Expr}
theorem lf_nat {f : DA} (h : PE X e (LF X.K TT E0 f)) : PE X e (LF X.K TT E (dNatL f)) := ⟨fun pins sh σ H Q I ⟨ρ, s, P, R, rl, ⟨ρ', fz, q⟩, k, x⟩ => by
  have t := rl.st
  refine thn (h.run pins sh σ _ (fun v G => ∃ ds m xs p, v = .ref p ∧ (calmsS (offS s) ds ∧ P ds (s.put m)) ∧ (∀ {sh : Shp} (ys : List V), rt (frF X.K s H) H p ≠ some (OwnS sh ys p)) ∧ G p = some (.lst xs) ∧ xs.length ≤ sizeLine ∧ Fre X.K TT s.n (rt (frF X.K s H) H) m (upd G p (OwnO xs p)) ∧ SeesL X.K m (upd G p (OwnO xs p)) xs ds) ((frF_ok t I.hok).inv I) ⟨ρ', s.n, _, R0, rl.frz fz, q, fun ds m xs p G z h0 h1 l _ e s' => ⟨ds, m, xs, p, rfl, z, fun ys w => h0 ys w rfl, h1, l, e, s'⟩, .zero (tabs_frz t x.tab)⟩) fun u s1 z => ?_
  obtain ⟨v, G, I1, r, ds, m, xs, p, rfl, ⟨c, z⟩, h0, h1, l, e, sv⟩ := z
  have nw := news_fra t e.toFrb
  have np : frF X.K s H p = none := by
    cases y : frF X.K s H p with
    | none => rfl
    | some q =>
      have w := nw p q y
      rw [upd_same] at w
      injection w with w
      rcases frF_new t y with ⟨C, dx, fs, es, _, w2⟩ | ⟨x, w2⟩ | ⟨xs, w2⟩ <;> (rw [w2] at w; unfold OwnO OwnS at w; cases w)
  have nw2 : News (frF X.K s H) G := fun a q y => by
    have w := nw a q y
    rw [upd_ne fun z => by rw [z, np] at y; cases y] at w
    exact w
  have eq : upd (rt (frF X.K s H).sw G) p (OwnO xs p) = rt (frF X.K s H).sw (upd G p (OwnO xs p)) := by
    funext b
    by_cases hb : b = p
    · rw [hb, upd_same, rtS_out np, upd_same]
    · rw [upd_ne hb]
      cases y : frF X.K s H b with
      | none => rw [rtS_out y, rtS_out y, upd_ne hb]
      | some q => rw [rtS_in y, rtS_in y]
  refine ⟨.ref p, rt (frF X.K s H).sw G, (frF_back t I1.hok nw2).inv I1, r, k ds _ xs p _ z (fun ys w z => ?_) (by rw [rtS_out np]; exact h1) l (show s.st p = none from frF_none.mp np) (by rw [eq]; exact .thaw t e) (by rw [eq]; exact sv.thaw t nw c)⟩
  exact h0 ys (by rw [rt_out np]; exact w)⟩
end
end Aim

namespace Aim
open PySem PySem.Spec PyProof.Rows L2
open LamX (TabB Tabs CodeO)
open Stt (cnt sto)
/-! ### a field is set -/
def setKs (f : Str) : List Str → List Str
  | [] => [f]
  | k :: ks => if k = f then k :: ks else k :: setKs f ks
def setDs {α : Type} (f : Str) (d : α) : List Str → List α → List α
  | [], ds => ds ++ [d]
  | k :: ks, x :: xs => if k = f then d :: xs else x :: setDs f d ks xs
  | _ :: _, [] => []
def idxF (f : Str) : List Str → Nat
  | [] => 0
  | k :: ks => if k = f then 0 else idxF f ks + 1
theorem setKs_len (f : Str) : ∀ ks : List Str, (setKs f ks).length ≤ ks.length + 1
  | [] => Nat.le_refl _
  | k :: ks => by
    unfold setKs
    split
    · exact Nat.le_succ _
    · exact Nat.succ_le_succ (setKs_len f ks)
theorem setDs_len {α : Type} (f : Str) (d : α) : ∀ {ks : List Str} {ds : List α}, ks.length = ds.length → (setKs f ks).length = (setDs f d ks ds).length
  | [], [], _ => rfl
  | k :: ks, x :: xs, l => by
    unfold setKs setDs
    split
    · exact l
    · exact congrArg (· + 1) (setDs_len f d (Nat.succ.inj l))
theorem putF_zip (f : Str) (y : V) : ∀ {ks : List Str} {xs : List V}, ks.length = xs.length → putF f y (ks.zip xs) = (setKs f ks).zip (setDs f y ks xs)
  | [], [], _ => rfl
  | k :: ks, x :: xs, l => by
    rw [List.zip_cons_cons]
    unfold putF setKs setDs
    split
    · rfl
    · rw [List.zip_cons_cons, putF_zip f y (Nat.succ.inj l)]
theorem setDs_get {α : Type} {f : Str} {d : α} : ∀ {ks : List Str} {ds : List α}, ks.length = ds.length → (setDs f d ks ds)[idxF f ks]? = some d ∧ ∀ i, i ≠ idxF f ks → (setDs f d ks ds)[i]? = ds[i]?
  | [], [], _ => ⟨rfl, fun i h => by
    cases i with
    | zero => exact absurd rfl h
    | succ i => simp [setDs]⟩
  | k :: ks, x :: xs, l => by
    unfold setDs idxF
    by_cases e : k = f
    · rw [if_pos e, if_pos e]
      refine ⟨rfl, fun i h => ?_⟩
      cases i with
      | zero => exact absurd rfl h
      | succ i => simp
    · rw [if_neg e, if_neg e]
      obtain ⟨h1, h2⟩ := setDs_get (f := f) (d := d) (ks := ks) (ds := xs) (Nat.succ.inj l)
      refine ⟨by simpa using h1, fun i h => ?_⟩
      cases i with
      | zero => simp
      | succ i => simpa using h2 i fun z => h (by rw [z])
theorem SeesL.setDs {S : Type} [Stt S] {K : PySem.W.Frag} {n : S} {H : Hp} {f : Str} {y : V} {d : Dat} (h : Sees K n H y d) : ∀ {ks : List Str} {xs : List V} {ds : List Dat}, SeesL K n H xs ds → ks.length = xs.length → SeesL K n H (Aim.setDs f y ks xs) (Aim.setDs f d ks ds)
  | [], _, _, .nil, _ => .cons h .nil
  | k :: ks, _, _, .cons s1 s2, l => by
    unfold Aim.setDs
    split
    · exact .cons h s2
    · exact .cons s1 (SeesL.setDs h s2 (Nat.succ.inj l))
section
variable {s s' : SS} {dx : Addr} {t : Nat} {f : Str} {d : Dat} {fv : Fv}
theorem fvs_same : ∀ {ds : List Dat} {i : Nat}, (∀ j e, i ≤ j → fvOf s' dx j e = fvOf s dx j e) → fvsOf s' dx i ds = fvsOf s dx i ds
  | [], _, _ => rfl
  | e :: ds, i, h => by
    unfold fvsOf
    rw [h i e (Nat.le_refl _), fvs_same fun j e' hj => h j e' (by omega)]
theorem fvs_set (ho : ∀ j e, j ≠ t → fvOf s' dx j e = fvOf s dx j e) (hv : fvOf s' dx t d = fv) : ∀ {ks : List Str} {ds : List Dat} {i : Nat}, ks.length = ds.length → t = i + idxF f ks → fvsOf s' dx i (setDs f d ks ds) = setDs f fv ks (fvsOf s dx i ds)
  | [], [], i, _, e => by
    have : t = i := e
    subst this
    show [fvOf s' dx t d] = _
    rw [hv]
    rfl
  | k :: ks, x :: xs, i, l, e => by
    unfold setDs idxF at *
    by_cases hk : k = f
    · rw [if_pos hk] at e ⊢
      have : t = i := e
      subst this
      show fvOf s' dx t d :: fvsOf s' dx (t + 1) xs = (if k = f then _ else _)
      rw [if_pos hk, hv, fvs_same fun j e' hj => ho j e' (by omega)]
    · rw [if_neg hk] at e ⊢
      show fvOf s' dx i x :: fvsOf s' dx (i + 1) (setDs f d ks xs) = (if k = f then _ else _)
      rw [if_neg hk, ho i x (by omega), fvs_set ho hv (Nat.succ.inj l) (by omega)]
end
/-- the view of another instance stands -/
theorem vw_else {s s' : SS} {x C dx : Addr} {es : List Dat} (hx : s.st x = some (.inst C dx, es)) (hi : ∀ a C dx es, s'.st a = some (.inst C dx, es) ↔ s.st a = some (.inst C dx, es)) (hd : ∀ a ks ds, a ≠ dx → (s'.st a = some (.ins ks, ds) ↔ s.st a = some (.ins ks, ds))) (hf : ∀ dy j e, dy ≠ dx → fvOf s' dy j e = fvOf s dy j e) {y : Addr} (h : y ≠ x) : vw s' y = vw s y := by
  cases e : s.st y with
  | none =>
    rw [vw_none (fun C dx es z => (by rw [hi, e] at z; cases z)), vw_none (fun C dx es z => (by rw [e] at z; cases z))]
  | some q =>
    obtain ⟨sh, us⟩ := q
    cases sh with
    | inst D dy =>
      have ne : dy ≠ dx := fun z => h (s.wf.one _ _ _ _ _ _ _ e (z ▸ hx))
      obtain ⟨ks, ds, ed⟩ := s.wf.dict _ _ _ _ e
      rw [vw_mk e ed, vw_mk ((hi _ _ _ _).mpr e) ((hd _ _ _ ne).mpr ed), fvs_same fun j e' _ => hf dy j e' ne]
    | ins ks => rw [vw_none (fun C dx es z => (by rw [hi, e] at z; cases z)), vw_none (fun C dx es z => (by rw [e] at z; cases z))]
    | lst => rw [vw_none (fun C dx es z => (by rw [hi, e] at z; cases z)), vw_none (fun C dx es z => (by rw [e] at z; cases z))]
open Classical in
/-- a field gets a value -/
theorem SS.fld_ex (s : SS) {x C dx : Addr} {es : List Dat} {ks : List Str} {ds : List Dat} (h1 : s.st x = some (.inst C dx, es)) (h2 : s.st dx = some (.ins ks, ds)) (l : ks.length = ds.length) (f : Str) (d : Dat) :
    ∃ s' : SS, s'.n = s.n ∧ (∀ a, s'.st a = if a = dx then some (.ins (setKs f ks), setDs f d ks ds) else s.st a) ∧ ∀ y, vw s' y = if y = x then some (C, setKs f ks, setDs f (.im d) ks (fvsOf s dx 0 ds)) else vw s y := by
  have nd : ∀ {a : Addr} {sh : Shp} {us : List Dat}, s.st a = some (sh, us) → (∀ ks, sh ≠ .ins ks) → a ≠ dx := fun e h z => by
    rw [z, h2] at e
    cases e
    exact h _ rfl
  let st' : Sto := fun a => if a = dx then some (.ins (setKs f ks), setDs f d ks ds) else s.st a
  let ow' : Addr → Option (Addr × Nat) := fun l => if s.ow l = some (dx, idxF f ks) then none else s.ow l
  have sti : ∀ a D dy us, st' a = some (.inst D dy, us) ↔ s.st a = some (.inst D dy, us) := fun a D dy us => by
    by_cases h : a = dx
    · rw [show st' a = some (.ins (setKs f ks), setDs f d ks ds) from if_pos h, h, h2]
      constructor <;> (intro z; cases z)
    · rw [show st' a = s.st a from if_neg h]
  have std : ∀ a ks' us, a ≠ dx → (st' a = some (.ins ks', us) ↔ s.st a = some (.ins ks', us)) := fun a ks' us h => by
    rw [show st' a = s.st a from if_neg h]
  have stl : ∀ a us, st' a = some (.lst, us) ↔ s.st a = some (.lst, us) := fun a us => by
    by_cases h : a = dx
    · rw [show st' a = some (.ins (setKs f ks), setDs f d ks ds) from if_pos h, h, h2]
      constructor <;> (intro z; cases z)
    · rw [show st' a = s.st a from if_neg h]
  have wf : WfS st' ow' := by
    refine ⟨fun a D dy us e => ?_, fun dy ks' us e => ?_, fun a b D D' dy us us' e e' => s.wf.one _ _ _ _ _ _ _ ((sti _ _ _ _).mp e) ((sti _ _ _ _).mp e'), fun l' dy i e => ?_⟩
    · obtain ⟨ks', us', e2⟩ := s.wf.dict _ _ _ _ ((sti _ _ _ _).mp e)
      by_cases h : dy = dx
      · exact ⟨_, _, if_pos h⟩
      · exact ⟨ks', us', (std _ _ _ h).mpr e2⟩
    · by_cases h : dy = dx
      · subst h
        exact ⟨x, C, es, (sti _ _ _ _).mpr h1⟩
      · obtain ⟨a, D, us', e2⟩ := s.wf.owner _ _ _ ((std _ _ _ h).mp e)
        exact ⟨a, D, us', (sti _ _ _ _).mpr e2⟩
    · replace e : (if s.ow l' = some (dx, idxF f ks) then none else s.ow l') = some (dy, i) := e
      split at e
      · cases e
      · rename_i hn
        obtain ⟨⟨c, e1⟩, ks', us, e2, e3⟩ := s.wf.lst _ _ _ e
        refine ⟨⟨c, (stl _ _).mpr e1⟩, ?_⟩
        by_cases h : dy = dx
        · subst h
          rw [h2] at e2
          cases e2
          exact ⟨_, _, if_pos rfl, by rw [(setDs_get l).2 i fun z => hn (by rw [e, z])]; exact e3⟩
        · exact ⟨_, _, (std _ _ _ h).mpr e2, e3⟩
  let s' : SS := ⟨s.n, st', ow', wf⟩
  have ho : ∀ dy j e, (dy ≠ dx ∨ j ≠ idxF f ks) → fvOf s' dy j e = fvOf s dy j e := fun dy j e h => by
    unfold fvOf
    cases e with
    | ref l' =>
      have eo : s'.ow l' = some (dy, j) ↔ s.ow l' = some (dy, j) := by
        show (if s.ow l' = some (dx, idxF f ks) then none else s.ow l') = some (dy, j) ↔ _
        by_cases z : s.ow l' = some (dx, idxF f ks)
        · rw [if_pos z, z]
          constructor
          · intro w; cases w
          · intro w
            cases w
            rcases h with h | h <;> exact absurd rfl h
        · rw [if_neg z]
      by_cases z : s.ow l' = some (dy, j)
      · obtain ⟨⟨c, e1⟩, _⟩ := s.wf.lst _ _ _ z
        dsimp only
        rw [if_pos z, if_pos (eo.mpr z), e1, show s'.st l' = _ from (stl _ _).mpr e1]
      · dsimp only
        rw [if_neg z, if_neg fun w => z (eo.mp w)]
    | _ => rfl
  have hv : fvOf s' dx (idxF f ks) d = .im d := by
    unfold fvOf
    cases d with
    | ref l' =>
      dsimp only
      rw [if_neg]
      show ¬ (if s.ow l' = some (dx, idxF f ks) then none else s.ow l') = some (dx, idxF f ks)
      by_cases z : s.ow l' = some (dx, idxF f ks)
      · rw [if_pos z]
        exact fun w => nomatch w
      · rw [if_neg z]
        exact z
    | _ => rfl
  refine ⟨s', rfl, fun a => rfl, fun y => ?_⟩
  by_cases h : y = x
  · subst h
    rw [if_pos rfl, vw_mk ((sti _ _ _ _).mpr h1) (show s'.st dx = _ from if_pos rfl), fvs_set (t := idxF f ks) (fun j e hj => ho dx j e (.inr hj)) hv l (by omega)]
  · rw [if_neg h]
    exact vw_else h1 sti std (fun dy j e hd => ho dy j e (.inl hd)) h
open Classical in
/-- a field gets a new list of its own -/
theorem SS.fldL_ex (s : SS) {x C dx p : Addr} {es : List Dat} {ks : List Str} {ds : List Dat} (h1 : s.st x = some (.inst C dx, es)) (h2 : s.st dx = some (.ins ks, ds)) (l : ks.length = ds.length) (f : Str) (c : List Dat) (hp : s.st p = none) :
    ∃ s' : SS, s'.n = s.n ∧ (∀ a, s'.st a = if a = p then some (.lst, c) else if a = dx then some (.ins (setKs f ks), setDs f (.ref p) ks ds) else s.st a) ∧ ∀ y, vw s' y = if y = x then some (C, setKs f ks, setDs f (.ls c) ks (fvsOf s dx 0 ds)) else vw s y := by
  have npd : dx ≠ p := fun z => by rw [z, hp] at h2; cases h2
  have op : s.ow p = none := by
    cases z : s.ow p with
    | none => rfl
    | some q =>
      obtain ⟨⟨c, e1⟩, _⟩ := s.wf.lst _ _ _ z
      rw [hp] at e1
      cases e1
  let st' : Sto := fun a => if a = p then some (.lst, c) else if a = dx then some (.ins (setKs f ks), setDs f (.ref p) ks ds) else s.st a
  let ow' : Addr → Option (Addr × Nat) := fun l => if l = p then some (dx, idxF f ks) else if s.ow l = some (dx, idxF f ks) then none else s.ow l
  have stp : st' p = some (.lst, c) := if_pos rfl
  have stx : st' dx = some (.ins (setKs f ks), setDs f (.ref p) ks ds) := by
    show (if dx = p then _ else if dx = dx then _ else _) = _
    rw [if_neg npd, if_pos rfl]
  have sto' : ∀ a, a ≠ p → a ≠ dx → st' a = s.st a := fun a n1 n2 => by
    show (if a = p then _ else if a = dx then _ else _) = _
    rw [if_neg n1, if_neg n2]
  have sti : ∀ a D dy us, st' a = some (.inst D dy, us) ↔ s.st a = some (.inst D dy, us) := fun a D dy us => by
    by_cases h0 : a = p
    · rw [h0, stp, hp]
      constructor <;> (intro z; cases z)
    by_cases h : a = dx
    · rw [h, stx, h2]
      constructor <;> (intro z; cases z)
    · rw [sto' a h0 h]
  have std : ∀ a ks' us, a ≠ dx → (st' a = some (.ins ks', us) ↔ s.st a = some (.ins ks', us)) := fun a ks' us h => by
    by_cases h0 : a = p
    · rw [h0, stp, hp]
      constructor <;> (intro z; cases z)
    · rw [sto' a h0 h]
  have stl : ∀ a us, a ≠ p → (st' a = some (.lst, us) ↔ s.st a = some (.lst, us)) := fun a us h0 => by
    by_cases h : a = dx
    · rw [h, stx, h2]
      constructor <;> (intro z; cases z)
    · rw [sto' a h0 h]
  have wf : WfS st' ow' := by
    refine ⟨fun a D dy us e => ?_, fun dy ks' us e => ?_, fun a b D D' dy us us' e e' => s.wf.one _ _ _ _ _ _ _ ((sti _ _ _ _).mp e) ((sti _ _ _ _).mp e'), fun l' dy i e => ?_⟩
    · obtain ⟨ks', us', e2⟩ := s.wf.dict _ _ _ _ ((sti _ _ _ _).mp e)
      by_cases h : dy = dx
      · rw [h]
        exact ⟨_, _, stx⟩
      · exact ⟨ks', us', (std _ _ _ h).mpr e2⟩
    · by_cases h : dy = dx
      · subst h
        exact ⟨x, C, es, (sti _ _ _ _).mpr h1⟩
      · obtain ⟨a, D, us', e2⟩ := s.wf.owner _ _ _ ((std _ _ _ h).mp e)
        exact ⟨a, D, us', (sti _ _ _ _).mpr e2⟩
    · replace e : (if l' = p then some (dx, idxF f ks) else if s.ow l' = some (dx, idxF f ks) then none else s.ow l') = some (dy, i) := e
      by_cases h0 : l' = p
      · rw [if_pos h0] at e
        cases e
        rw [h0]
        exact ⟨⟨c, stp⟩, _, _, stx, (setDs_get l).1⟩
      rw [if_neg h0] at e
      split at e
      · cases e
      · rename_i hn
        obtain ⟨⟨c, e1⟩, ks', us, e2, e3⟩ := s.wf.lst _ _ _ e
        refine ⟨⟨c, (stl _ _ h0).mpr e1⟩, ?_⟩
        by_cases h : dy = dx
        · subst h
          rw [h2] at e2
          cases e2
          exact ⟨_, _, stx, by rw [(setDs_get l).2 i fun z => hn (by rw [e, z])]; exact e3⟩
        · exact ⟨_, _, (std _ _ _ h).mpr e2, e3⟩
  let s' : SS := ⟨s.n, st', ow', wf⟩
  have ho : ∀ dy j e, (dy ≠ dx ∨ j ≠ idxF f ks) → fvOf s' dy j e = fvOf s dy j e := fun dy j e h => by
    unfold fvOf
    cases e with
    | ref l' =>
      have eo : s'.ow l' = some (dy, j) ↔ s.ow l' = some (dy, j) := by
        show (if l' = p then some (dx, idxF f ks) else if s.ow l' = some (dx, idxF f ks) then none else s.ow l') = some (dy, j) ↔ _
        by_cases h0 : l' = p
        · rw [if_pos h0, h0, op]
          constructor
          · intro w
            cases w
            rcases h with h | h <;> exact absurd rfl h
          · intro w; cases w
        rw [if_neg h0]
        by_cases z : s.ow l' = some (dx, idxF f ks)
        · rw [if_pos z, z]
          constructor
          · intro w; cases w
          · intro w
            cases w
            rcases h with h | h <;> exact absurd rfl h
        · rw [if_neg z]
      by_cases z : s.ow l' = some (dy, j)
      · obtain ⟨⟨c, e1⟩, _⟩ := s.wf.lst _ _ _ z
        have h0 : l' ≠ p := fun w => by rw [w, hp] at e1; cases e1
        dsimp only
        rw [if_pos z, if_pos (eo.mpr z), e1, show s'.st l' = _ from (stl _ _ h0).mpr e1]
      · dsimp only
        rw [if_neg z, if_neg fun w => z (eo.mp w)]
    | _ => rfl
  have hv : fvOf s' dx (idxF f ks) (.ref p) = .ls c := by
    unfold fvOf
    dsimp only
    rw [if_pos (show s'.ow p = some (dx, idxF f ks) from if_pos rfl), show s'.st p = _ from stp]
  refine ⟨s', rfl, fun a => rfl, fun y => ?_⟩
  by_cases h : y = x
  · subst h
    rw [if_pos rfl, vw_mk ((sti _ _ _ _).mpr h1) (show s'.st dx = _ from stx), fvs_set (t := idxF f ks) (fun j e hj => ho dx j e (.inr hj)) hv l (by omega)]
  · rw [if_neg h]
    exact vw_else h1 sti std (fun dy j e hd => ho dy j e (.inl hd)) h
end Aim

namespace Aim
open PySem PySem.Spec PyProof.Rows L2
open LamX (TabB Tabs CodeO)
open Stt (cnt sto)
/-- the position of a field, and what it shows -/
theorem fvs_get {s : SS} {dx : Addr} : ∀ {ds : List Dat} {i j : Nat} {fv : Fv}, (fvsOf s dx i ds)[j]? = some fv → ∃ d, ds[j]? = some d ∧ fvOf s dx (i + j) d = fv
  | d :: ds, i, 0, fv, h => ⟨d, rfl, by simpa [fvsOf] using h⟩
  | d :: ds, i, j + 1, fv, h => by
    obtain ⟨e, h1, h2⟩ := fvs_get (ds := ds) (i := i + 1) (j := j) (by simpa [fvsOf] using h)
    exact ⟨e, by simpa using h1, by rw [← h2]; congr 1; omega⟩
theorem fvOf_ls {s : SS} {dx : Addr} {i : Nat} {d : Dat} {c : List Dat} (h : fvOf s dx i d = .ls c) : ∃ l, d = .ref l ∧ s.ow l = some (dx, i) ∧ s.st l = some (.lst, c) := by
  unfold fvOf at h
  split at h
  · rename_i l
    split at h
    · rename_i ho
      split at h
      · rename_i c' e
        cases h
        exact ⟨l, rfl, ho, e⟩
      · cases h
    · cases h
  · cases h
theorem setDs_at {α : Type} {f : Str} {d : α} : ∀ {ks : List Str} {ds : List α}, ks.length = ds.length → ds[idxF f ks]? = some d → setDs f d ks ds = ds
  | [], [], _, h => by simp [idxF] at h
  | k :: ks, x :: xs, l, h => by
    unfold setDs
    unfold idxF at h
    by_cases e : k = f
    · rw [if_pos e] at h ⊢
      simp at h
      rw [h]
    · rw [if_neg e] at h ⊢
      rw [setDs_at (Nat.succ.inj l) (by simpa using h)]
theorem setKs_at {f : Str} : ∀ {ks : List Str}, idxF f ks < ks.length → setKs f ks = ks
  | k :: ks, h => by
    unfold setKs
    unfold idxF at h
    by_cases e : k = f
    · rw [if_pos e]
    · rw [if_neg e] at h ⊢
      rw [setKs_at (by simpa using h)]
open Classical in
/-- a list of a field is written -/
theorem SS.wrL_ex (s : SS) {x C dx : Addr} {es : List Dat} {ks : List Str} {ds : List Dat} (h1 : s.st x = some (.inst C dx, es)) (h2 : s.st dx = some (.ins ks, ds)) (l : ks.length = ds.length) {f : Str} {c : List Dat} (hf : (fvsOf s dx 0 ds)[idxF f ks]? = some (.ls c)) (c' : List Dat) :
    ∃ p, ds[idxF f ks]? = some (.ref p) ∧ s.st p = some (.lst, c) ∧ ∃ s' : SS, s'.n = s.n ∧ (∀ a, s'.st a = if a = p then some (.lst, c') else s.st a) ∧ ∀ y, vw s' y = if y = x then some (C, ks, setDs f (.ls c') ks (fvsOf s dx 0 ds)) else vw s y := by
  obtain ⟨d, e1, e2⟩ := fvs_get hf
  rw [Nat.zero_add] at e2
  obtain ⟨p, rfl, op, sp⟩ := fvOf_ls e2
  refine ⟨p, e1, sp, ?_⟩
  let st' : Sto := fun a => if a = p then some (.lst, c') else s.st a
  have stp : st' p = some (.lst, c') := if_pos rfl
  have sto' : ∀ a, a ≠ p → st' a = s.st a := fun a n => if_neg n
  have sti : ∀ a D dy us, st' a = some (.inst D dy, us) ↔ s.st a = some (.inst D dy, us) := fun a D dy us => by
    by_cases h0 : a = p
    · rw [h0, stp, sp]
      constructor <;> (intro z; cases z)
    · rw [sto' a h0]
  have std : ∀ a ks' us, (st' a = some (.ins ks', us) ↔ s.st a = some (.ins ks', us)) := fun a ks' us => by
    by_cases h0 : a = p
    · rw [h0, stp, sp]
      constructor <;> (intro z; cases z)
    · rw [sto' a h0]
  have wf : WfS st' s.ow := by
    refine ⟨fun a D dy us e => ?_, fun dy ks' us e => ?_, fun a b D D' dy us us' e e' => s.wf.one _ _ _ _ _ _ _ ((sti _ _ _ _).mp e) ((sti _ _ _ _).mp e'), fun l' dy i e => ?_⟩
    · obtain ⟨ks', us', e2⟩ := s.wf.dict _ _ _ _ ((sti _ _ _ _).mp e)
      exact ⟨ks', us', (std _ _ _).mpr e2⟩
    · obtain ⟨a, D, us', e2⟩ := s.wf.owner _ _ _ ((std _ _ _).mp e)
      exact ⟨a, D, us', (sti _ _ _ _).mpr e2⟩
    · obtain ⟨⟨c0, e1⟩, ks', us, e2, e3⟩ := s.wf.lst _ _ _ e
      refine ⟨?_, ks', us, (std _ _ _).mpr e2, e3⟩
      by_cases h0 : l' = p
      · rw [h0]
        exact ⟨_, stp⟩
      · exact ⟨c0, by rw [sto' _ h0]; exact e1⟩
  let s' : SS := ⟨s.n, st', s.ow, wf⟩
  have ho : ∀ dy j e, (dy ≠ dx ∨ j ≠ idxF f ks) → fvOf s' dy j e = fvOf s dy j e := fun dy j e h => by
    unfold fvOf
    cases e with
    | ref l' =>
      by_cases z : s.ow l' = some (dy, j)
      · have h0 : l' ≠ p := fun w => by
          rw [w, op] at z
          cases z
          rcases h with h | h <;> exact absurd rfl h
        dsimp only
        rw [if_pos z, if_pos (show s'.ow l' = some (dy, j) from z), show s'.st l' = s.st l' from sto' _ h0]
      · dsimp only
        rw [if_neg z, if_neg (show ¬ s'.ow l' = some (dy, j) from z)]
    | _ => rfl
  have hv : fvOf s' dx (idxF f ks) (.ref p) = .ls c' := by
    unfold fvOf
    dsimp only
    rw [if_pos (show s'.ow p = some (dx, idxF f ks) from op), show s'.st p = _ from stp]
  refine ⟨s', rfl, fun a => rfl, fun y => ?_⟩
  by_cases h : y = x
  · subst h
    have q := fvs_set (s := s) (s' := s') (dx := dx) (t := idxF f ks) (f := f) (d := .ref p) (fv := .ls c') (fun j e hj => ho dx j e (.inr hj)) hv (ks := ks) (ds := ds) (i := 0) l (by omega)
    rw [setDs_at l e1] at q
    rw [if_pos rfl, vw_mk ((sti _ _ _ _).mpr h1) ((std _ _ _).mpr h2), q]
  · rw [if_neg h]
    exact vw_else h1 sti (fun a ks ds _ => std a ks ds) (fun dy j e hd => ho dy j e (.inl hd)) h
/-- a new instance -/
theorem SS.new_ex (s : SS) {x dx : Addr} (C : Addr) (hx : s.st x = none) (hd : s.st dx = none) (ne : dx ≠ x) :
    ∃ s' : SS, s'.n = s.n ∧ (∀ a, s'.st a = if a = x then some (.inst C dx, []) else if a = dx then some (.ins [], []) else s.st a) ∧ ∀ y, vw s' y = if y = x then some (C, [], []) else vw s y := by
  let st' : Sto := fun a => if a = x then some (.inst C dx, []) else if a = dx then some (.ins [], []) else s.st a
  have stx : st' x = some (.inst C dx, []) := if_pos rfl
  have std0 : st' dx = some (.ins [], []) := by
    show (if dx = x then _ else if dx = dx then _ else _) = _
    rw [if_neg ne, if_pos rfl]
  have sto' : ∀ a, a ≠ x → a ≠ dx → st' a = s.st a := fun a n1 n2 => by
    show (if a = x then _ else if a = dx then _ else _) = _
    rw [if_neg n1, if_neg n2]
  have old : ∀ {a : Addr} {q : Shp × List Dat}, s.st a = some q → st' a = some q := fun {a q} e => by
    rw [sto' a (fun z => by rw [z, hx] at e; cases e) fun z => by rw [z, hd] at e; cases e]
    exact e
  have no : ∀ C' es, ∀ a, s.st a ≠ some (.inst C' dx, es) := fun C' es a e => by
    obtain ⟨_, _, e2⟩ := s.wf.dict _ _ _ _ e
    rw [hd] at e2
    cases e2
  have wf : WfS st' s.ow := by
    refine ⟨fun a D dy us e => ?_, fun dy ks' us e => ?_, fun a b D D' dy us us' e e' => ?_, fun l' dy i e => ?_⟩
    · by_cases h1 : a = x
      · rw [h1, stx] at e
        cases e
        exact ⟨_, _, std0⟩
      by_cases h2 : a = dx
      · rw [h2, std0] at e
        cases e
      rw [sto' a h1 h2] at e
      obtain ⟨ks, ds, e2⟩ := s.wf.dict _ _ _ _ e
      exact ⟨ks, ds, old e2⟩
    · by_cases h1 : dy = x
      · rw [h1, stx] at e
        cases e
      by_cases h2 : dy = dx
      · rw [h2]
        exact ⟨x, C, _, stx⟩
      rw [sto' _ h1 h2] at e
      obtain ⟨a, D, us', e2⟩ := s.wf.owner _ _ _ e
      exact ⟨a, D, us', old e2⟩
    · have key : ∀ {a D us}, st' a = some (.inst D dy, us) → (a = x ∧ dy = dx) ∨ s.st a = some (.inst D dy, us) := fun {a D us} e => by
        by_cases h1 : a = x
        · rw [h1, stx] at e
          cases e
          exact .inl ⟨h1, rfl⟩
        by_cases h2 : a = dx
        · rw [h2, std0] at e
          cases e
        exact .inr (by rw [← sto' a h1 h2]; exact e)
      rcases key e with ⟨e1, e2⟩ | e1
      · rcases key e' with ⟨e3, e4⟩ | e3
        · rw [e1, e3]
        · exact absurd (e2 ▸ e3) (no _ _ _)
      · rcases key e' with ⟨e3, e4⟩ | e3
        · exact absurd (e4 ▸ e1) (no _ _ _)
        · exact s.wf.one _ _ _ _ _ _ _ e1 e3
    · obtain ⟨⟨c0, e1⟩, ks', us, e2, e3⟩ := s.wf.lst _ _ _ e
      exact ⟨⟨c0, old e1⟩, ks', us, old e2, e3⟩
  let s' : SS := ⟨s.n, st', s.ow, wf⟩
  have hf : ∀ dy j e, fvOf s' dy j e = fvOf s dy j e := fun dy j e => by
    unfold fvOf
    cases e with
    | ref l' =>
      by_cases z : s.ow l' = some (dy, j)
      · obtain ⟨⟨c0, e1⟩, _⟩ := s.wf.lst _ _ _ z
        dsimp only
        rw [if_pos z, if_pos (show s'.ow l' = some (dy, j) from z), e1, show s'.st l' = _ from old e1]
      · dsimp only
        rw [if_neg z, if_neg (show ¬ s'.ow l' = some (dy, j) from z)]
    | _ => rfl
  refine ⟨s', rfl, fun a => rfl, fun y => ?_⟩
  by_cases h : y = x
  · rw [if_pos h, h, vw_mk (s := s') stx std0]
    rfl
  · rw [if_neg h]
    cases e : s.st y with
    | none =>
      rw [vw_none (s := s) fun C dx es z => by rw [e] at z; cases z]
      by_cases h2 : y = dx
      · exact vw_none fun C' dx' es z => by rw [show s'.st y = _ from h2 ▸ std0] at z; cases z
      · exact vw_none fun C' dx' es z => by rw [show s'.st y = _ from sto' y h h2, e] at z; cases z
    | some q =>
      obtain ⟨sh, us⟩ := q
      cases sh with
      | inst D dy =>
        obtain ⟨ks, ds, ed⟩ := s.wf.dict _ _ _ _ e
        rw [vw_mk e ed, vw_mk (s := s') (old e) (old ed), fvs_same fun j e' _ => hf dy j e']
      | ins ks => rw [vw_none (s := s) (fun C dx es z => (by rw [e] at z; cases z)), vw_none (s := s') (fun C dx es z => (by rw [show s'.st y = _ from old e] at z; cases z))]
      | lst => rw [vw_none (s := s) (fun C dx es z => (by rw [e] at z; cases z)), vw_none (s := s') (fun C dx es z => (by rw [show s'.st y = _ from old e] at z; cases z))]
end Aim

namespace Aim
open PySem PySem.Spec PyProof.Rows L2
open LamX (TabB Tabs CodeO)
open Stt (cnt sto)
/-! ### the fields of the store's instances, read and written -/
section
variable {X : Cx} {H : Hp} {C dx x : Addr} {ks : List Str} {xs : List V}
theorem toM_ofM (hx : H x = some (HidX C dx x)) (hd : H dx = some (OwnS (.ins ks) xs dx)) : toM (ofM H C dx x ks xs) C dx x ks xs = H := by
  have ne : dx ≠ x := fun w => by
    rw [w, hx] at hd
    exact kind_ins (w ▸ (Option.some.inj hd).symm)
  funext b
  by_cases b1 : b = x
  · rw [b1, toM_x, hx]
  by_cases b2 : b = dx
  · rw [b2, toM_d ne, hd]
  rw [toM_ne b1 b2, ofM_ne b1 b2]
def tFldS (K : PySem.W.Frag) (t : TE) (f : Str) : TE := fun σ H Q => t σ H fun v H1 => ∃ (x C dx : Addr) (ks : List Str) (xs : List V) (u : V), v = .ref x ∧ H1 x = some (HidX C dx x) ∧ H1 dx = some (OwnS (.ins ks) xs dx) ∧ Cls K C ∧ NoAttr K C f ∧ (ks.zip xs).lookup f = some u ∧ Q u H1
theorem pe_fldS {o : Expr} {f : Str} {t : TE} {pos : Pos} (ho : PE X o t) (hab : attributeBase o f X.env (eval o X.env) = eval o X.env := by rfl) : PE X (.Attribute o f pos) (tFldS X.K t f) := by
  refine ⟨fun pins s σ H Q I h => ?_⟩
  refine attr_of hab (thn (ho.run pins s σ H _ I h) fun u s1 ⟨x, H1, I1, rx, a, C, dx, ks, xs, v, ex, hx, hd, c, n, l, q⟩ => ?_)
  subst ex
  obtain rfl : u = Value.ref a := rx
  obtain ⟨I2, ne, le⟩ := of_making I1 hx hd
  refine getattr_ok I2 (show ofM H1 C dx a ks xs a = _ from upd_same) c n l fun u' s2 I3 ru => ⟨v, H1, ?_, ru, q⟩
  have z := (to_making I3 (show ofM H1 C dx a ks xs a = _ from upd_same) le).1
  rw [toM_ofM hx hd] at z
  exact z
def tSetS (K : PySem.W.Frag) (ta tv : TE) (f : Str) : TS := fun D σ H => tv σ H fun y H1 => ta σ H1 fun v H2 => ∃ (x C dx : Addr) (ks : List Str) (xs : List V), v = .ref x ∧ H2 x = some (HidX C dx x) ∧ H2 dx = some (OwnS (.ins ks) xs dx) ∧ Cls K C ∧ NoAttr K C f ∧ ks.length < 1000 ∧ D.nx σ (upd H2 dx (OwnS (.ins (setKs f ks)) (setDs f y ks xs) dx))
theorem ps_setS {o value : Expr} {f : Str} {ta tv : TE} {pos pos' : Pos} (ha : PE X o ta) (hv : PE X value tv) (hs : swapsWith value (some (.Attribute o f pos')) pos.line X.env = pure false) : PS X (.Assign [.Attribute o f pos'] value pos) (tSetS X.K ta tv f) := by
  refine ⟨fun pins s σ H D I h => ?_⟩
  refine plainObj_wpAny_Assign_Attribute (thn (hv.run pins s σ H _ I h) fun u s1 ⟨y, H1, I1, ry, q⟩ => thn (ha.run pins s1 σ H1 _ I1 q) fun ov s2 ⟨v, H2, I2, rx, a, C, dx, ks, xs, ex, hx, hd, c, n, l, q2⟩ => ?_) hs
  subst ex
  obtain rfl : ov = Value.ref a := rx
  obtain ⟨I3, ne, le⟩ := of_making I2 hx hd
  refine setattr_ok I3 (show ofM H2 C dx a ks xs a = _ from upd_same) c n (by rw [List.length_zip, le, Nat.min_self]; omega) ry fun s3 I4 => ⟨σ, _, ?_, q2⟩
  rw [putF_zip f y le] at I4
  have z := (to_making I4 upd_same (setDs_len f y le)).1
  have e : toM (upd (ofM H2 C dx a ks xs) a (.ins C dx ((setKs f ks).zip (setDs f y ks xs)))) C dx a (setKs f ks) (setDs f y ks xs) = upd H2 dx (OwnS (.ins (setKs f ks)) (setDs f y ks xs) dx) := by
    funext b
    by_cases b1 : b = a
    · rw [b1, toM_x, upd_ne (Ne.symm ne), hx]
    by_cases b2 : b = dx
    · rw [b2, toM_d ne, upd_same]
    rw [toM_ne b1 b2, upd_ne b1, ofM_ne b1 b2, upd_ne b2]
  rw [e] at z
  exact z
end
section
variable {K : PySem.W.Frag} {TT : List (Addr × Str)} {s s' : SS} {H H' : Hp} {ρ : List Sl} {σ : L2.St}
/-- a store's thing in the heap -/
theorem sto_dict (t : StoOk K s H) {dx : Addr} {ks : List Str} {ds : List Dat} (e : s.st dx = some (.ins ks, ds)) : ∃ xs, H dx = some (OwnS (.ins ks) xs dx) ∧ ks.length = xs.length ∧ SeesL K s H xs ds := t.ok _ _ _ e
theorem sto_inst (t : StoOk K s H) {x C dx : Addr} {es : List Dat} (e : s.st x = some (.inst C dx, es)) : H x = some (HidX C dx x) ∧ es = [] := by
  obtain ⟨xs, h1, h2, _⟩ := t.ok _ _ _ e
  obtain ⟨rfl, h3⟩ : xs = [] ∧ es = [] := h2
  exact ⟨h1, h3⟩
theorem sto_lst (t : StoOk K s H) {l : Addr} {ds : List Dat} (e : s.st l = some (.lst, ds)) : ∃ xs, H l = some (OwnO xs l) ∧ xs.length ≤ sizeLine ∧ SeesL K s H xs ds := t.ok _ _ _ e
theorem cast_sees {v : V} {d : Dat} (hn : s'.n = s.n) (h : Sees K s H v d) : Sees K s' H v d := h.cast (by show s.n ≤ s'.n; omega)
theorem cast_seesL {v : List V} {d : List Dat} (hn : s'.n = s.n) (h : SeesL K s H v d) : SeesL K s' H v d := h.cast (by show s.n ≤ s'.n; omega)
/-- one own thing of the heap is another one, the store is told so -/
theorem Fra.chg {p : Addr} {sh : Shp} {o : HO} {xs : List V} (h : H p = some (OwnS sh xs p)) (hn : s'.n = s.n) (st : StoOk K s H → StoOk K s' (upd H p o)) : Fra K TT s H s' (upd H p o) := by
  have b := Frb.own (n := s) (o := o) h
  exact ⟨⟨by show s.n ≤ s'.n; omega, b.keep, fun b' k l e => by
    obtain ⟨j, h1, h2⟩ := b.pot b' k l e
    exact ⟨j, by have h1 : j ≤ s.n := h1; show j ≤ s'.n; omega, h2⟩⟩, tabs_own h, st⟩
theorem Rel.chg {p : Addr} {sh : Shp} {o : HO} {xs : List V} (r : Rel K ρ s σ H) (h : H p = some (OwnS sh xs p)) (hp : s.st p ≠ none) (hn : s'.n = s.n) (hs : ∀ a, a ≠ p → s.st a = none → s'.st a = none) (f : Fra K TT s H s' (upd H p o)) : Rel K ρ s' σ (upd H p o) :=
  r.mono f (fun i a ys _ _ e hn' => by
    have ne : a ≠ p := fun z => hp (z ▸ hn')
    exact ⟨upd_ne ne, hs a ne hn'⟩) fun i C x dx ks ds ys _ e1 e2 n1 n2 => by
    have ne1 : x ≠ p := fun z => hp (z ▸ n1)
    have ne2 : dx ≠ p := fun z => hp (z ▸ n2)
    exact ⟨⟨upd_ne ne2, upd_ne ne1⟩, hs x ne1 n1, hs dx ne2 n2⟩
end
section
variable {K : PySem.W.Frag} {TT : List (Addr × Str)} {s m s' : SS} {H H1 H' : Hp} {ρ : List Sl} {σ : L2.St}
theorem StoOk.chg {p : Addr} {sh sh' : Shp} {xs ys : List V} {us : List Dat} (t : StoOk K s H) (h : H p = some (OwnS sh xs p)) (hn : s'.n = s.n) (hst : ∀ a, a ≠ p → s'.st a = s.st a) (hp : s'.st p = some (sh', us)) (w : shW sh' ys us) (sy : SeesL K s H ys us) : StoOk K s' (upd H p (OwnS sh' ys p)) := ⟨fun a sh us' e => by
  have b := Frb.own (n := s) (o := OwnS sh' ys p) h
  have e : s'.st a = some (sh, us') := e
  by_cases ha : a = p
  · rw [ha, hp] at e
    cases e
    rw [ha]
    exact ⟨ys, upd_same, w, cast_seesL hn (sy.monoB b)⟩
  · rw [hst a ha] at e
    obtain ⟨zs, h1, h2, h3⟩ := t.ok a sh us' e
    exact ⟨zs, by rw [upd_ne ha]; exact h1, h2, cast_seesL hn (h3.monoB b)⟩⟩
theorem Rel.upto (r : Rel K ρ s σ H) (e : Fre K TT s H m H1) (f : Fra K TT s H s' H') (ch : ∀ (a : Addr) (sh : Shp) (xs : List V), H a = some (OwnS sh xs a) → s.st a = none → H1 a = some (OwnS sh xs a) → m.st a = none → H' a = H1 a ∧ s'.st a = none) : Rel K ρ s' σ H' :=
  r.mono f (fun i a ys _ _ h hs => by
    obtain ⟨h1, h2⟩ := e.own a ys h hs
    obtain ⟨h3, h4⟩ := ch a _ ys h hs h1 h2
    exact ⟨by rw [h3, h1, h], h4⟩) fun i C x dx ks ds ys _ e1 e2 n1 n2 => by
    obtain ⟨a1, a2⟩ := e.own x [] e1 n1
    obtain ⟨b1, b2⟩ := e.own dx ys e2 n2
    obtain ⟨c1, c2⟩ := ch x _ _ e1 n1 a1 a2
    obtain ⟨d1, d2⟩ := ch dx _ _ e2 n2 b1 b2
    exact ⟨⟨by rw [d1, b1, e2], by rw [c1, a1, e1]⟩, c2, d2⟩
end
theorem fvOf_put (s : SS) (k : Nat) (dx : Addr) (i : Nat) (d : Dat) : fvOf (s.put k) dx i d = fvOf s dx i d := by cases d <;> rfl
theorem fvs_put (s : SS) (k : Nat) (dx : Addr) (i : Nat) (ds : List Dat) : fvsOf (s.put k) dx i ds = fvsOf s dx i ds := fvs_same fun j e _ => fvOf_put s k dx j e
theorem vw_put (s : SS) (k : Nat) (a : Addr) : vw (s.put k) a = vw s a := by
  have e : fvsOf (s.put k) = fvsOf s := by
    funext dx i ds
    exact fvs_put s k dx i ds
  unfold vw
  rw [e]
  rfl
theorem lookup_idx {f : Str} : ∀ {ks : List Str} {ds : List Dat} {d : Dat}, ks.length = ds.length → ds[idxF f ks]? = some d → idxF f ks < ks.length → (ks.zip ds).lookup f = some d
  | k :: ks, x :: xs, d, l, h, hi => by
    rw [List.zip_cons_cons, List.lookup_cons]
    unfold idxF at h hi
    by_cases e : k = f
    · rw [if_pos e] at h
      have : (f == k) = true := by rw [e]; exact beq_self_eq_true f
      rw [this]
      simpa using h
    · rw [if_neg e] at h hi
      have : (f == k) = false := beq_eq_false_iff_ne.mpr fun z => e z.symm
      rw [this]
      exact lookup_idx (Nat.succ.inj l) (by simpa using h) (by simpa using hi)
/-! ### self.f = e -/
def selfS (ρ : List Sl) (i : Nat) (s : SS) (C : Addr) (Q : Addr → List Str → List Fv → Prop) : Prop := ∃ x ks fv, slAt ρ i = .val (.ref x) ∧ vw s x = some (C, ks, fv) ∧ ks.length < 900 ∧ Q x ks fv
def chgS (s : SS) (x C : Addr) (ks : List Str) (fv : List Fv) (Q : SS → Prop) : Prop := ∀ s' : SS, s'.n = s.n → (∀ y, vw s' y = if y = x then some (C, ks, fv) else vw s y) → Q s'
def dFldS (i : Nat) (C : Addr) (f : Str) (fe : GDE SS) : GDS SS := fun P ρ s => fe ρ s (fun d m => selfS ρ i m C fun x ks fv => chgS m x C (setKs f ks) (setDs f (.im d) ks fv) fun s' => P.nx ρ s') P.ex
def dFldL (i : Nat) (C : Addr) (f : Str) (fl : GDA SS) : GDS SS := fun P ρ s => fl ρ s (fun ds m => selfS ρ i m C fun x ks fv => chgS m x C (setKs f ks) (setDs f (.ls ds) ks fv) fun s' => P.nx ρ s') P.ex
def dItemL (i : Nat) (C : Addr) (f : Str) (fi fe : GDE SS) : GDS SS := fun P ρ s => fe ρ s (fun d m => selfS ρ i m C fun x ks fv => ∃ c, fv[idxF f ks]? = some (.ls c) ∧ fi ρ m (fun z j => j = m.put j.n ∧ ∃ q : Nat, z = .int q ∧ q < c.length ∧ chgS j x C ks (setDs f (.ls (c.set q d)) ks fv) fun s' => P.nx ρ s') P.ex) P.ex
section
variable {X : Cx} {TT : List (Addr × Str)} {E : XK} {i : Nat} {C : Addr} {f : Str} {o value ix : Expr} {fe fi : GDE SS} {fl : GDA SS} {pos pos' pos'' : Pos}
theorem ds_fldS (c : Cls X.K C) (na : NoAttr X.K C f) (ho : PE X o (tVar i)) (hv : PE X value (LE X.K TT E fe)) (hs : swapsWith value (some (.Attribute o f pos')) pos.line X.env = pure false) : PS X (.Assign [.Attribute o f pos'] value pos) (LS X.K TT E (dFldS i C f fe)) :=
  (ps_setS ho hv hs).imp fun D σ H ⟨ρ, n, P, rl, q, k⟩ => ⟨ρ, n, _, P.ex, rl, q, fun d m y H1 z e sy => by
    obtain ⟨x, ks, fv, hρ, hv, hl, z⟩ := z
    have r1 := rl.fre e
    obtain ⟨v, hσ, sv⟩ := r1.var (slAt_of hρ (by simp))
    have sv := sv.ref_iff
    subst sv
    obtain ⟨dx, es, ds, h1, h2, rfl⟩ := vw_of hv
    obtain ⟨xs, hd, l, sx⟩ := sto_dict r1.st h2
    obtain ⟨hx, rfl⟩ := sto_inst r1.st h1
    refine ⟨.ref x, hσ, x, C, dx, ks, xs, rfl, hx, hd, c, na, by omega, ?_⟩
    obtain ⟨s', hn, hst, hvw⟩ := m.fld_ex h1 h2 (l.trans sx.length) f d
    have fr : Fra X.K TT m H1 s' (upd H1 dx (OwnS (.ins (setKs f ks)) (setDs f y ks xs) dx)) := .chg hd hn fun t => t.chg hd hn (fun a ha => by rw [hst, if_neg ha]) (by rw [hst, if_pos rfl]) (setDs_len f y l) (SeesL.setDs sy sx l)
    exact k.nx ρ s' σ _ (z s' hn hvw) (e.toFra.trans fr) (rl.upto e (e.toFra.trans fr) fun a sh ys _ _ _ hm => by
      have ne : a ≠ dx := fun w => by rw [w, h2] at hm; cases hm
      exact ⟨upd_ne ne, by rw [hst, if_neg ne]; exact hm⟩), k.ex.toE⟩
/-- self.f = a new list -/
theorem ds_fldL (c : Cls X.K C) (na : NoAttr X.K C f) (ho : PE X o (tVar i)) (hv : PE X value (LF X.K TT E fl)) (hs : swapsWith value (some (.Attribute o f pos')) pos.line X.env = pure false) : PS X (.Assign [.Attribute o f pos'] value pos) (LS X.K TT E (dFldL i C f fl)) :=
  (ps_own (ps_setS ho hv hs)).imp fun D σ H ⟨ρ, n, P, rl, q, k⟩ => ⟨ρ, n, _, P.ex, rl, q, fun ds m ys p H1 z h0 hp lp sp e sy => by
    obtain ⟨x, ks, fv, hρ, hv, hl, z⟩ := z
    have r1 := rl.fre e
    obtain ⟨v, hσ, sv⟩ := r1.var (slAt_of hρ (by simp))
    have sv := sv.ref_iff
    subst sv
    obtain ⟨dx, es, us, h1, h2, rfl⟩ := vw_of hv
    obtain ⟨xs, hd, l, sx⟩ := sto_dict r1.st h2
    obtain ⟨hx, rfl⟩ := sto_inst r1.st h1
    have n1 : x ≠ p := fun w => by rw [w] at h1; rw [show m.st p = none from sp] at h1; cases h1
    have n2 : dx ≠ p := fun w => by rw [w] at h2; rw [show m.st p = none from sp] at h2; cases h2
    have hx1 : H1 x = some (HidX C dx x) := by rw [upd_ne n1] at hx; exact hx
    have hd1 : H1 dx = some (OwnS (.ins ks) xs dx) := by rw [upd_ne n2] at hd; exact hd
    refine ⟨.ref x, hσ, x, C, dx, ks, xs, rfl, hx1, hd1, c, na, by omega, p, ys, by rw [upd_ne (Ne.symm n2)]; exact hp, ?_⟩
    obtain ⟨s', hn, hst, hvw⟩ := m.fldL_ex h1 h2 (l.trans sx.length) f ds sp
    have eq : upd (upd H1 dx (OwnS (.ins (setKs f ks)) (setDs f (.ref p) ks xs) dx)) p (OwnO ys p) = upd (upd H1 p (OwnO ys p)) dx (OwnS (.ins (setKs f ks)) (setDs f (.ref p) ks xs) dx) := by
      funext b
      by_cases b1 : b = p
      · rw [b1, upd_same, upd_ne (Ne.symm n2), upd_same]
      by_cases b2 : b = dx
      · rw [b2, upd_ne n2, upd_same, upd_same]
      rw [upd_ne b1, upd_ne b2, upd_ne b2, upd_ne b1]
    rw [eq]
    have fr : Fra X.K TT m (upd H1 p (OwnO ys p)) s' (upd (upd H1 p (OwnO ys p)) dx (OwnS (.ins (setKs f ks)) (setDs f (.ref p) ks xs) dx)) := .chg hd hn fun t => ⟨fun a sh us' e => by
      have b := Frb.own (n := m) (o := OwnS (.ins (setKs f ks)) (setDs f (.ref p) ks xs) dx) hd
      have e : s'.st a = some (sh, us') := e
      rw [hst] at e
      by_cases ha : a = p
      · rw [if_pos ha] at e
        cases e
        rw [ha]
        exact ⟨ys, by rw [upd_ne (Ne.symm n2), upd_same], lp, cast_seesL hn (sy.monoB b)⟩
      rw [if_neg ha] at e
      by_cases hb : a = dx
      · rw [if_pos hb] at e
        cases e
        rw [hb]
        exact ⟨_, upd_same, setDs_len f _ l, cast_seesL hn ((SeesL.setDs (.ref p) sx l).monoB b)⟩
      · rw [if_neg hb] at e
        obtain ⟨zs, g1, g2, g3⟩ := t.ok a sh us' e
        exact ⟨zs, by rw [upd_ne hb]; exact g1, g2, cast_seesL hn (g3.monoB b)⟩⟩
    exact k.nx ρ s' σ _ (z s' hn hvw) (e.toFra.trans fr) (rl.upto e (e.toFra.trans fr) fun a sh zs ha hs' _ hm => by
      have ne : a ≠ dx := fun w => by rw [w, h2] at hm; cases hm
      have np : a ≠ p := fun w => h0 zs (w ▸ ha) (show n.st p = none from w ▸ hs')
      exact ⟨upd_ne ne, by rw [hst, if_neg np, if_neg ne]; exact hm⟩), k.ex.toE⟩
/-- self.f[i] = e -/
theorem ds_itemL {st : Stmt} (c : Cls X.K C) (na : NoAttr X.K C f) (h : PS X st (tAsg (LE X.K TT E fe) (gSub (tFldS X.K (tVar i) f) (LE X.K TT E fi) rSetO))) : PS X st (LS X.K TT E (dItemL i C f fi fe)) := h.imp fun D σ H ⟨ρ, n, P, rl, q, k⟩ => by
  refine ⟨ρ, n, _, P.ex, rl, q, fun v m y H1 z e sy => ?_, k.ex.toE⟩
  obtain ⟨x, ks, fv, hρ, hv, hl, cs, hc, z⟩ := z
  have r1 := rl.fre e
  obtain ⟨v', hσ, sv⟩ := r1.var (slAt_of hρ (by simp))
  have sv := sv.ref_iff
  subst sv
  obtain ⟨dx, es, us, h1, h2, rfl⟩ := vw_of hv
  obtain ⟨xs, hd, l, sx⟩ := sto_dict r1.st h2
  obtain ⟨hx, rfl⟩ := sto_inst r1.st h1
  obtain ⟨d, hd1, hd2⟩ := fvs_get hc
  rw [Nat.zero_add] at hd2
  obtain ⟨p, rfl, op, sp⟩ := fvOf_ls hd2
  have hi : idxF f ks < ks.length := by
    have := (List.getElem?_eq_some_iff.mp hd1).1
    have := sx.length
    omega
  obtain ⟨u, hu, su⟩ := lookup_sees sx (lookup_idx (l.trans sx.length) hd1 hi)
  have su := su.ref_iff
  subst su
  refine ⟨.ref x, hσ, x, C, dx, ks, xs, .ref p, rfl, hx, hd, c, na, hu, ?_⟩
  refine ⟨ρ, m, _, P.ex, r1, z, fun k2 j y2 H2 z e2 s2 => ?_, (k.ex.mono e.toFra).toE⟩
  obtain ⟨hj, q2, rfl, hq, z⟩ := z
  have h1' : j.st x = some (.inst C dx, []) := by rw [hj]; exact h1
  have h2' : j.st dx = some (.ins ks, us) := by rw [hj]; exact h2
  have hc' : (fvsOf j dx 0 us)[idxF f ks]? = some (.ls cs) := by rw [hj, fvs_put]; exact hc
  have r2 := r1.fre e2
  obtain ⟨p', hp1, sp', s', hn, hst, hvw⟩ := j.wrL_ex h1' h2' (l.trans sx.length) hc' (cs.set q2 v)
  obtain rfl : p = p' := by
    rw [hd1] at hp1
    injection hp1 with hp1
    injection hp1
  obtain ⟨ys, hl', ll, sl⟩ := sto_lst r2.st sp'
  refine ⟨p, ys, rfl, hl', p, ys, _, q2, rfl, s2.int_iff, upd_same, ?_, ys.set q2 y, upd_same, ?_⟩
  · have := sl.length
    unfold ixN
    rw [if_pos (by omega), if_pos (by omega)]
    simp
  · rw [upd_upd, upd_upd]
    have fr : Fra X.K TT j H2 s' (upd H2 p (OwnO (ys.set q2 y) p)) := .chg hl' hn fun t => t.chg hl' hn (fun a ha => by rw [hst, if_neg ha]) (by rw [hst, if_pos rfl]) (show (ys.set q2 y).length ≤ sizeLine by rw [List.length_set]; exact ll) (sl.set (sy.mono e2.toFra) q2)
    have ee := e.trans e2
    exact k.nx ρ s' σ _ (z s' hn (by rw [show fvsOf j dx 0 us = fvsOf m dx 0 us by rw [hj, fvs_put]] at hvw; exact hvw)) (ee.toFra.trans fr) (rl.upto ee (ee.toFra.trans fr) fun a sh zs _ _ _ hm => by
      have ne : a ≠ p := fun w => by rw [w, sp'] at hm; cases hm
      exact ⟨upd_ne ne, by rw [hst, if_neg ne]; exact hm⟩)
end
end Aim

namespace Aim
open PySem PySem.Spec PyProof.Rows L2
open LamX (TabB Tabs CodeO)
open Stt (cnt sto)
/-! ### promises: of what stands, for a store; of a store, for what stands -/
section
variable {S : Type} [Stt S] {K : PySem.W.Frag} {TT : List (Addr × Str)} {E : XK}
theorem spO_at {sp : GDSp S} {n m : S} {H H1 : Hp} {vs : List V} {ds : List Dat} {P : Dat → S → Prop} {R : GRX S} {Q : VK} (x : ExE K TT E n H R) (st : StoOk K n H) (e : Fre K TT n H m H1) (s : SeesL K m H1 vs ds) (q : sp ds m P R) (k : ∀ d j v H', P d j → Fre K TT n H j H' → Sees K j H' v d → Q v H') : spO (LSp K TT sp) vs H1 Q E :=
  ⟨S, _, m, ds, m, P, R, s.mono (TT := TT) Fra.cut, q, fun d j v G p g t gone => k d j v _ p (e.trans (.glue g (e.st st) gone)) (t.grow (grow_glue gone)), ⟨(Fra.cut (K := K) (n := m)).tab (e.tab x.tab), fun C d j dd v G p g hd t gone => x.ex C d j dd v _ p (e.trans (Fre.glue g (e.st st) gone)) (grow_glue gone _ _ hd) (t.grow (grow_glue gone))⟩, (Fra.cut (TT := TT)).st (e.st st)⟩
theorem spO_of {sp : GDSp S} {vs : List V} {H : Hp} {Q : VK} (h : LSp K TT sp vs H Q E) : spO (LSp K TT sp) vs H Q E := by
  obtain ⟨ds, n, P, R, s, q, k, x, st⟩ := h
  exact spO_at x.toE st .refl s q fun d j v H' p e t => k d j v H' p e.toFra t
end
def frzSp (sp : DSp) : GDSp SS := fun ds s P R => ∃ ds', FrzL s ds ds' ∧ sp ds' s.n (fun d m => calmS (offS s) d ∧ P d (s.put m)) (fun C d m => calmS (offS s) d ∧ R C d (s.put m))
section
variable {P : Program} {w : World} {K : PySem.W.Frag} {mg : Str → Option Value} {base : Heap} {TT : List (Addr × Str)} {k : Nat} {sp : DSp} {vs : List V} {H : Hp} {Q : VK} {E : XK}
theorem lsp_frz (h : LSp K TT (frzSp sp) vs H Q E) : ∃ s, StoOk K s H ∧ LSp (S := Nat) K TT sp vs (rt (frF K s H) H) (fun v G => News (frF K s H) G ∧ Q v (rt (frF K s H).sw G)) (fun c d G => News (frF K s H) G ∧ E c d (rt (frF K s H).sw G)) := by
  obtain ⟨ds, s, P, R, se, ⟨ds', fz, q⟩, kQ, kE, kS⟩ := h
  refine ⟨s, kS, ds', s.n, _, _, se.frz kS fz, q, fun d m v G p e t => ?_, ⟨tabs_frz kS kE.tab, fun C d m dd v G p e hd t => ?_⟩, .nat⟩
  · have nw := news_fra kS e.toFrb
    exact ⟨nw, kQ d _ v _ p.2 (.thaw kS e) (t.thaw kS nw p.1)⟩
  · have nw := news_fra kS e.toFrb
    exact ⟨nw, kE.ex C d _ dd v _ p.2 (.thaw kS e) (keepS kS nw hd (fun _ _ _ z => nomatch z) (fun _ z => nomatch z) (fun _ z => nomatch z)) (t.thaw kS nw p.1)⟩
theorem fnR_frz {f : Addr} (F : FnR P w K mg base (L2.CX P w) k f (spO (LSp (S := Nat) K TT sp))) : FnR P w K mg base (L2.CX P w) k f (spO (LSp (S := SS) K TT (frzSp sp))) := by
  intro A outer s_ H us vs Q E hr e0 r h
  obtain ⟨U, iU, n, h⟩ := h
  have e1 := env0_cutO (n := n) e0
  obtain ⟨s, kS, h2⟩ := lsp_frz h
  have ok := frF_ok kS e1.hok
  have e2 := ok.env0 e1
  refine codeAny_mono (F A outer s_ _ us vs _ _ hr e2 r (spO_of h2)) fun y s' hq => ?_
  match y, hq with
  | .error e, hq => exact cx_glueO e0.hok e0.frf (cx_rt ok (fun G h hG nw => frF_back kS hG nw) hq)
  | .ok (.ret u), hq => exact ce_glueO e0.hok e0.frf (ce_rt ok (fun G h hG nw => frF_back kS hG nw) hq)
theorem MdD.frz {C : Addr} {nm : Str} (d : MdD (S := Nat) P w K mg base TT k C nm sp) : MdD (S := SS) P w K mg base TT k C nm (frzSp sp) := by
  obtain ⟨f, F, M⟩ := d.ex
  exact ⟨f, fnR_frz F, M⟩
theorem Df.frz {G : Bool} {x : Str} (d : Df P w K mg base G k x (LSp (S := Nat) K TT sp)) : Df P w K mg base G k x (LSp (S := SS) K TT (frzSp sp)) := by
  obtain ⟨f, fd, ps, F, hm, hk, hb⟩ := d.ex
  refine ⟨f, fd, ps, ⟨fun vs H Q E h => ?_, fun {A fr s_ H args us vs Q E} hr hg e0 b r h => ?_⟩, hm, hk, hb⟩
  · obtain ⟨s, kS, h2⟩ := lsp_frz h
    exact F.len _ _ _ _ h2
  · obtain ⟨s, kS, h2⟩ := lsp_frz h
    have ok := frF_ok kS e0.hok
    refine codeAny_mono (F.run hr hg (ok.env0 e0) b r h2) fun y s' hq => ?_
    match y, hq with
    | .error e, hq => exact cx_rt ok (fun G h hG nw => frF_back kS hG nw) hq
    | .ok (.ret u), hq => exact ce_rt ok (fun G h hG nw => frF_back kS hG nw) hq
/-- the empty store -/
def SS.emp (n : Nat) : SS := ⟨n, fun _ => none, fun _ => none, ⟨fun _ _ _ _ e => (by cases e), fun _ _ _ e => (by cases e), fun _ _ _ _ _ _ _ e => (by cases e), fun _ _ _ e => (by cases e)⟩⟩
theorem vw_emp (n : Nat) (a : Addr) : vw (.emp n) a = none := rfl
def empSp (sp : GDSp SS) : DSp := fun ds n P R => sp ds (.emp n) (fun d s => P d s.n) (fun C d s => R C d s.n)
theorem fra_nat {s m : SS} {H' : Hp} (f : Fra K TT s H m H') : Fra K TT s.n H m.n H' := ⟨⟨f.le, f.keep, f.pot⟩, f.tab, fun _ => .nat⟩
theorem lsp_emp {sp : GDSp SS} (h : LSp K TT (empSp sp) vs H Q E) : LSp K TT sp vs H Q E := by
  obtain ⟨ds, n, P, R, se, q, kQ, kE, kS⟩ := h
  exact ⟨ds, .emp n, _, _, se.cast (m := SS.emp n) (Nat.le_refl n), q, fun d m v H' p f t => kQ d m.n v H' p (fra_nat f) (t.cast (m := m.n) (Nat.le_refl m.n)), ⟨kE.tab, fun C d m dd v H' r f hd t => kE.ex C d m.n dd v H' r (fra_nat f) hd (t.cast (m := m.n) (Nat.le_refl m.n))⟩, .none fun _ => rfl⟩
theorem Df.emp {G : Bool} {x : Str} {sp : GDSp SS} (d : Df P w K mg base G k x (LSp K TT sp)) : Df P w K mg base G k x (LSp K TT (empSp sp)) := d.imp fun _ _ _ _ h => lsp_emp h
end
/-! ### C(e, ..), into the store -/
def dMakeS (C : Addr) (sp : GDSp SS) (fr : GDA SS) : GDE SS := fun ρ s P R => fr ρ s (fun ds m => ∀ (x : Addr) (m' : SS), m'.n = m.n → vw m x = none → (∀ y, vw m' y = if y = x then some (C, [], []) else vw m y) → sp (.ref x :: ds) m' (fun d j => d = .non ∧ P (.ref x) j) R) R
section
variable {X : Cx} {TT : List (Addr × Str)} {E : XK} {k j : Nat} {C : Addr} {x : Str} {sp : GDSp SS} {e : Expr} {es : List Expr} {fr : GDA SS} {p pos : Pos}
theorem sto_new {K : PySem.W.Frag} {m : SS} {H1 : Hp} {x dx : Addr} (st : StoOk K m H1) (h0 : H1 x = none) (h1 : H1 dx = none) (ne : dx ≠ x) (C : Addr) : ∃ m' : SS, m'.n = m.n ∧ vw m x = none ∧ (∀ y, vw m' y = if y = x then some (C, [], []) else vw m y) ∧ Fre K TT m H1 m' (toM (upd (upd H1 dx (.own x)) x (.ins C dx [])) C dx x [] []) := by
  have n0 : m.st x = none := st.free h0
  have n1 : m.st dx = none := st.free h1
  obtain ⟨m', hn, hst, hvw⟩ := m.new_ex C n0 n1 ne
  refine ⟨m', hn, vw_none fun _ _ _ z => (by rw [n0] at z; cases z), hvw, ?_⟩
  have g : Grow H1 (toM (upd (upd H1 dx (.own x)) x (.ins C dx [])) C dx x [] []) := fun b o e => by
    have b1 : b ≠ x := fun z => by rw [z, h0] at e; cases e
    have b2 : b ≠ dx := fun z => by rw [z, h1] at e; cases e
    rw [toM_ne b1 b2, upd_ne b1, upd_ne b2]
    exact e
  refine ⟨⟨⟨by show m.n ≤ m'.n; omega, fun b o e _ => g b o e, fun b i l e => ⟨i, by have l : i ≤ m.n := l; show i ≤ m'.n; omega, g _ _ e⟩⟩, fun t => t.ext g, fun t => ⟨fun a sh ds e => ?_⟩⟩, fun b xs e z => ⟨g _ _ e, ?_⟩⟩
  · have e : m'.st a = some (sh, ds) := e
    rw [hst] at e
    by_cases ha : a = x
    · rw [if_pos ha] at e
      cases e
      rw [ha]
      exact ⟨[], toM_x, ⟨rfl, rfl⟩, .nil⟩
    rw [if_neg ha] at e
    by_cases hb : a = dx
    · rw [if_pos hb] at e
      cases e
      rw [hb]
      exact ⟨[], toM_d ne, rfl, .nil⟩
    · rw [if_neg hb] at e
      obtain ⟨xs, q1, q2, q3⟩ := t.ok a sh ds e
      exact ⟨xs, g _ _ q1, q2, cast_seesL hn (q3.grow g)⟩
  · show m'.st b = none
    rw [hst, if_neg (fun z => by rw [z, h0] at e; cases e), if_neg (fun z => by rw [z, h1] at e; cases e)]
    exact z
theorem de_makeS (d : MdD X.prog X.w X.K X.mg X.base TT k C "__init__" sp) (M : ∃ f, Mk X.K C f) (hr : Room j X.A) (hk : k + 1 ≤ j) (gl : Gl X x) (hm : X.mg x = some (.ref C)) (hx : Passes (L2.CX X.prog X.w) X E) (ha : PA X (e :: es) (LA X.K TT E fr))
    (hdb : (x == ("__debug__" : Str)) = false := by decide) (he : starEach (e :: es) X.env = (false, eval e X.env) :: starEach es X.env := by rfl) (hpl : (backTo pos (starEach es X.env)).any (·.1) = false := by rfl) :
    PE X (.Call (.Name x p) (e :: es) [] pos) (LE X.K TT E (dMakeS C sp fr)) := by
  obtain ⟨f, F, Mt⟩ := d.ex
  obtain ⟨f', M⟩ := M
  obtain rfl : f = f' := by
    have z := Mt.at_
    rw [M.init] at z
    injection z with z
    injection z with z
    injection z with z
    exact z.symm
  refine ⟨fun pins s σ H Q I h => wpAny_Call_Name_kw (ld_glob I gl hm ?_ hdb)⟩
  obtain ⟨ρ, n, P, R, rl, q, kQ, kE⟩ := h
  refine PySem.W.callWith_K (h₀ := X.base) I.ok.mod.kin M.kp (thn (ha.run pos pins s σ H (fun vs H1 => ∃ ds m, SeesL X.K m H1 vs ds ∧ (∀ (x : Addr) (m' : SS), m'.n = m.n → vw m x = none → (∀ y, vw m' y = if y = x then some (C, [], []) else vw m y) → sp (.ref x :: ds) m' (fun d j => d = .non ∧ P (.ref x) j) R) ∧ Fre X.K TT n H m H1) I ⟨ρ, n, _, R, rl, q, fun ds m vs H1 z e s => ⟨ds, m, s, z, e⟩, kE⟩) fun us s1 ⟨vs, H1, I1, r, ds, m, se, z, e⟩ => ⟨I1.kIn, ?_⟩) he hpl
  have h0 : H1 (s1.heap.objs.size + 1) = none := I1.hok.fresh (Nat.le_succ _)
  have h1 : H1 s1.heap.objs.size = none := I1.hok.fresh (Nat.le_refl _)
  have ne : s1.heap.objs.size ≠ s1.heap.objs.size + 1 := Nat.ne_of_lt (Nat.lt_succ_self _)
  obtain ⟨m', hn, hv0, hvw, fr⟩ := sto_new (TT := TT) (e.st rl.st) h0 h1 ne C
  have I2 := Inv.made (C := C) I1
  have I3 := (to_making (ks := []) (xs := []) I2 upd_same rfl).1
  have ee := e.trans fr
  have hq : spO (LSp X.K TT sp) (.ref (s1.heap.objs.size + 1) :: vs) _ (fun v H' => v = .non ∧ Q (.ref (s1.heap.objs.size + 1)) H') E := spO_at kE rl.st ee (.cons (.ref _) (se.mono fr.toFra)) (z _ m' hn hv0 hvw) fun d i v H' p g t => by
    obtain ⟨rfl, p⟩ := p
    exact ⟨t.non_iff, kQ _ i _ H' p g (.ref _)⟩
  have r2 : Vals (V.ref (s1.heap.objs.size + 1) :: vs) (Value.ref (s1.heap.objs.size + 1) :: us) := .cons rfl r
  refine wpAny_call (make_map (f := f) I1.kIn M.makes M.init (beq_iff_eq.mp M.fn) (codeAny_mono (F _ X.stack _ _ _ _ _ _ ((hr.mono hk).make C us []) (I3.env0.make C us []) r2 hq) fun y s' hq' => ?_))
  match y, hq' with
  | .error e, hq' => exact hx pins σ _ _ e s' I3 hq'
  | .ok (.ret u), hq' =>
    obtain ⟨v, H', I4, rv, ev, q3⟩ := I3.after hq'
    subst ev
    exact ⟨rv, ⟨V.ref (s1.heap.objs.size + 1), H', I4, rfl, q3⟩⟩
end
/-! ### x[i] = e, x op= e -/
section
variable {S : Type} [Stt S] {X : Cx} {TT : List (Addr × Str)} {E : XK} {k j i : Nat} {C f : Addr} {sp : GDSp S} {fe fo fi : GDE S} {st : Stmt}
def rSetA (C : Addr) (sp : Sp) (E : XK) : TSet := fun o i v H Q => ∃ a, o = .ref a ∧ IsAt H a C ∧ sp [.ref a, i, v] H (fun _ H' => Q H') E
theorem set_objA {sp : Sp} (d : Meth X.K C "__setitem__" f) (nq : PySem.W.noSeq X.K C = true) (F : FnR X.prog X.w X.K X.mg X.base (L2.CX X.prog X.w) k f sp) (hr : Room k X.A) (hx : Passes (L2.CX X.prog X.w) X E) : PSet X (rSetA C sp E) := by
  intro pins s σ H o i v ov iv u Q I r1 r2 r3 ⟨a, eo, ha, q⟩
  subst eo
  obtain rfl : ov = Value.ref a := r1
  obtain ⟨m, fr⟩ := inv_fr I
  obtain ⟨ox, od, J⟩ := ha.inst I
  refine PySem.W.ksp_setItem fr I.ok.mod.kin J nq d.at_ d.fn (wpAny_mono (wpAny_call (run_fnR F hr hx I (us := [Value.ref a, iv, u]) (vs := [V.ref a, i, v]) (.cons (show RelV (V.ref a) (Value.ref a) from rfl) (.cons r2 (.cons r3 .nil))) q)) (fun r s' z => ?_) fun _ _ e => e)
  obtain ⟨w, H', I', _, q'⟩ := z
  exact ⟨H', I', q'⟩
def dSetA (C : Addr) (sp : GDSp S) (fe fo fi : GDE S) : GDS S := fun P ρ n => fe ρ n (fun v m => fo ρ m (fun o k => fi ρ k (fun i j => instD C j o ∧ sp [o, i, v] j (fun _ j' => P.nx ρ j') P.ex) P.ex) P.ex) P.ex
theorem ds_setA (h : PS X st (tAsg (LE X.K TT E fe) (gSub (LE X.K TT E fo) (LE X.K TT E fi) (rSetA C (spO (LSp X.K TT sp)) E)))) : PS X st (LS X.K TT E (dSetA C sp fe fo fi)) := h.imp fun D σ H ⟨ρ, n, P, rl, q, k⟩ => by
  refine ⟨ρ, n, _, P.ex, rl, q, fun v m x H1 q1 e1 s1 => ⟨ρ, m, _, P.ex, rl.fre e1, q1, fun o k2 y H2 q2 e2 s2 => ⟨ρ, k2, _, P.ex, (rl.fre e1).fre e2, q2, fun i j z H3 q3 e3 s3 => ?_, (k.ex.mono (e1.trans e2).toFra).toE⟩, (k.ex.mono e1.toFra).toE⟩, k.ex.toE⟩
  obtain ⟨hd, q⟩ := q3
  have ee := (e1.trans e2).trans e3
  obtain ⟨a, rfl, ha⟩ := instD_at hd (s2.mono e3.toFra) (ee.st rl.st)
  exact ⟨a, rfl, ha, spO_at k.ex.toE rl.st ee (.cons (s2.mono e3.toFra) (.cons s3 (.cons (s1.mono (e2.trans e3).toFra) .nil))) q fun d j' v' H' p g t => k.nx ρ j' σ H' p g.toFra (rl.fre g)⟩
theorem ds_setAI (M : MdD X.prog X.w X.K X.mg X.base TT k C "__setitem__" sp) (nq : PySem.W.noSeq X.K C = true) (hr : Room j X.A) (hk : k ≤ j) (hx : Passes (L2.CX X.prog X.w) X E) (h : PSet X (rSetA C (spO (LSp X.K TT sp)) E) → PS X st (tAsg (LE X.K TT E fe) (gSub (LE X.K TT E fo) (LE X.K TT E fi) (rSetA C (spO (LSp X.K TT sp)) E)))) : PS X st (LS X.K TT E (dSetA C sp fe fo fi)) := by
  obtain ⟨f, F, Mt⟩ := M.ex
  exact ds_setA (h (set_objA Mt nq F (hr.mono hk) hx))
/-- name op= e, the name's thing of one's own class -/
def rAugA (C : Addr) (sp : Sp) (E : XK) : TIp := fun x y H Q => ∃ a, x = .ref a ∧ IsAt H a C ∧ sp [.ref a, y] H Q E
theorem ip_objA {op : Operator} {sp : Sp} (d : Meth X.K C (dunderI op.info.2) f) (hc : PySem.W.selfFirst X.K C = true) (F : FnR X.prog X.w X.K X.mg X.base (L2.CX X.prog X.w) k f sp) (hr : Room k X.A) (hx : Passes (L2.CX X.prog X.w) X E) : PIp X op (rAugA C sp E) := by
  intro pins s σ H x y v u Q I rx ry ⟨a, ex, ha, q⟩
  subst ex
  obtain rfl : v = Value.ref a := rx
  obtain ⟨m, fr⟩ := inv_fr I
  obtain ⟨ox, od, J⟩ := ha.inst I
  exact PySem.W.ksp_inplace fr I.ok.mod.kin J hc d.at_ d.fn (wpAny_mono (wpAny_call (run_fnR F hr hx I (us := [Value.ref a, u]) (vs := [V.ref a, y]) (.cons (show RelV (V.ref a) (Value.ref a) from rfl) (.cons ry .nil)) q)) (fun r s' z => by
    obtain ⟨w, H', I', rw', q'⟩ := z
    exact back_of (rel_not rw') ⟨w, H', I', rw', q'⟩) fun _ _ e => e)
def dAugA (i : Nat) (C : Addr) (sp : GDSp S) (fe : GDE S) : GDS S := fun P ρ n => slV (slAt ρ i) fun o => fe ρ n (fun e m => instD C m o ∧ sp [o, e] m (fun d j => P.nx (ρ.set i (.val d)) j) P.ex) P.ex
theorem ds_augA {op : Operator} (M : MdD X.prog X.w X.K X.mg X.base TT k C (dunderI op.info.2) sp) (hc : PySem.W.selfFirst X.K C = true) (hr : Room j X.A) (hk : k ≤ j) (hx : Passes (L2.CX X.prog X.w) X E) (h : PIp X op (rAugA C (spO (LSp X.K TT sp)) E) → PS X st (tAug i (LE X.K TT E fe) (rAugA C (spO (LSp X.K TT sp)) E))) : PS X st (LS X.K TT E (dAugA i C sp fe)) := by
  obtain ⟨f, F, Mt⟩ := M.ex
  refine (h (ip_objA Mt hc F (hr.mono hk) hx)).imp fun D σ H ⟨ρ, n, P, rl, q, k⟩ => ?_
  unfold dAugA at q
  cases e : slAt ρ i with
  | val o =>
    rw [e] at q
    have hρ := slAt_of e (by simp)
    obtain ⟨v, hσ, sv⟩ := rl.var hρ
    refine ⟨v, hσ, ρ, n, _, P.ex, rl, q, fun e m y H1 z e1 s1 => ?_, k.ex.toE⟩
    obtain ⟨hd, z⟩ := z
    have sv := sv.mono e1.toFra
    obtain ⟨a, rfl, ha⟩ := instD_at hd sv (e1.st rl.st)
    exact ⟨a, rfl, ha, spO_at k.ex.toE rl.st e1 (.cons sv (.cons s1 .nil)) z fun d j v' H' p g t => k.nx _ j _ H' p g.toFra ((rl.fre g).put t)⟩
  | _ => rw [e] at q; exact q.elim
end
end Aim

namespace Aim
open PySem PySem.Spec PyProof.Rows L2
open LamX (TabB Tabs CodeO)
open Stt (cnt sto)
variable {S : Type} [Stt S]
/-! ### methods of things of one's own class: by position, by keywords -/
def instM (C : Addr) (m : Str) (n : S) : Dat → Prop
  | .obj C' ks _ => C' = C ∧ m ∉ ks
  | .ref a => ∃ dx es ks ds, sto n a = some (.inst C dx, es) ∧ sto n dx = some (.ins ks, ds) ∧ m ∉ ks
  | _ => False
theorem instM_vw {s : SS} {a C : Addr} {m : Str} {ks : List Str} {fv : List Fv} (h : vw s a = some (C, ks, fv)) (hm : m ∉ ks) : instM C m s (.ref a) := by
  obtain ⟨dx, es, ds, h1, h2, _⟩ := vw_of h
  exact ⟨dx, es, ks, ds, h1, h2, hm⟩
/-- a method under its name, looked up at a thing of its class -/
theorem getmeth_A {X : Cx} {pins : List (Addr × Obj)} {σ : L2.St} {H : Hp} {s : Shared} {C g : Addr} {m : Str} {pl : Sem Bool} {Q : Value × List Value → Shared → Prop} {E : Value → Shared → Prop} {n : S} {v : V} {u : Value} {d : Dat} (I : Inv X pins σ H s) (c : Cls X.K C) (k : Meth X.K C m g) (h : instM C m n d) (sv : Sees X.K n H v d) (st : StoOk X.K n H) (r : RelV v u)
    (q : ∀ a, v = .ref a → u = .ref a → Q (.ref g, [.ref a]) s) : wpAny (model X.prog X.w) X.A (getMethod u m pl) Q E s := by
  unfold instM at h
  split at h
  · obtain ⟨rfl, hm⟩ := h
    cases sv with
    | obj h1 h2 h3 =>
      obtain rfl : u = .ref _ := r
      exact getmeth_ok I h1 c k (lookup_no hm) (q _ rfl rfl)
  · rename_i a
    obtain ⟨dx, es, ks, ds, h1, h2, hm⟩ := h
    have e := sv.ref_iff
    subst e
    obtain rfl : u = .ref a := r
    obtain ⟨xs, e1, w1, _⟩ := st.ok _ _ _ h1
    obtain ⟨ys, e2, _, _⟩ := st.ok _ _ _ h2
    obtain ⟨rfl, _⟩ : xs = [] ∧ _ := w1
    exact getmeth_ok (of_making I e1 e2).1 (show ofM H C dx a ks ys a = _ from upd_same) c k (lookup_no hm) (q _ rfl rfl)
  · exact h.elim
section
variable {X : Cx} {TT : List (Addr × Str)} {E : XK} {k j : Nat} {C : Addr} {m : Str} {sp : GDSp S} {o e : Expr} {es : List Expr} {fo : GDE S} {fr : GDA S} {apos pos : Pos} {pl : Sem Bool}
def dMethA (C : Addr) (m : Str) (sp : GDSp S) (fo : GDE S) (fr : GDA S) : GDE S := fun ρ n P R => fo ρ n (fun d i => instM C m i d ∧ fr ρ i (fun ds k => sp (d :: ds) k P R) R) R
theorem de_methA (d : MdD X.prog X.w X.K X.mg X.base TT k C m sp) (c : Cls X.K C) (hr : Room j X.A) (hk : k ≤ j) (hx : Passes (L2.CX X.prog X.w) X E) (ho : PE X o (LE X.K TT E fo)) (ha : PA X (e :: es) (LA X.K TT E fr))
    (hst : starEach (e :: es) X.env = (false, eval e X.env) :: starEach es X.env := by rfl) (hpl : (backTo pos (starEach es X.env)).any (·.1) = false := by rfl)
    (ht : eval (.Call (.Attribute o m apos) (e :: es) [] pos) X.env = (do
      let ov ← eval o X.env
      standAt apos.atName
      let (f, first) ← holding [ov] (getMethod ov m pl)
      callWith pos f first (backTo pos (starEach (e :: es) X.env)) (backToKw pos (keywordEach [] X.env))) := by rfl) : PE X (.Call (.Attribute o m apos) (e :: es) [] pos) (LE X.K TT E (dMethA C m sp fo fr)) := by
  obtain ⟨f, F, M⟩ := d.ex
  refine ⟨fun pins s σ H Q I ⟨ρ, n, P, R, rl, q, k, x⟩ => ?_⟩
  refine PySem.W.methodCall_KW (pl := pl) (thn (ho.run pins s σ H (fun v H1 => ∃ d i, Fre X.K TT n H i H1 ∧ Sees X.K i H1 v d ∧ instM C m i d ∧ fr ρ i (fun ds k => sp (d :: ds) k P R) R) I ⟨ρ, n, _, R, rl, q, fun d i v H1 z e1 s => ⟨d, i, e1, s, z⟩, x⟩) fun u s1 ⟨v, H1, I1, r, d, i, e1, sv, hi, z⟩ => ?_) ht
  refine getmeth_A I1 c M hi sv (e1.st rl.st) r fun a ev eu => ?_
  subst ev
  subst eu
  refine PySem.W.callWith_K (first := [.ref a]) (h₀ := X.base) I1.ok.mod.kin M.kp (thn (ha.run pos pins s1 σ H1 (fun vs H2 => spO (LSp X.K TT sp) (.ref a :: vs) H2 Q E) I1 ⟨ρ, i, _, R, rl.fre e1, z, fun ds j vs H2 z2 e2 s2 => spO_at x rl.st (e1.trans e2) (.cons (sv.mono e2.toFra) s2) z2 k, x.mono e1⟩) fun us s2 ⟨vs, H2, I2, r2, q2⟩ => ⟨I2.kIn, ?_⟩) hst hpl
  exact wpAny_call (run_fnR (us := .ref a :: us) (vs := .ref a :: vs) F (hr.mono hk) hx I2 (.cons rfl r2) q2)
end
/-- a method by its body's promise, with how it binds -/
structure MdR (P : Program) (w : World) (K : PySem.W.Frag) (mg : Str → Option Value) (base : Heap) (TT : List (Addr × Str)) (k : Nat) (C : Addr) (nm qual : Str) (st : Stmt) (ps : List Str) (sp : GDSp S) : Prop where
  ex : ∃ (f : Addr) (kV doc pm : Value) (an : Option Addr) (cdv ct : Value), Rn P w K mg base false k f (PySem.W.fnOf nm qual (defArgs st) (defBody st) (defScope st) .none kV doc pm an cdv ct) ps (LSp K TT sp) ∧ Meth K C nm f
/-- a method by its promise, its other parameters by these keywords -/
structure MdK (P : Program) (w : World) (K : PySem.W.Frag) (mg : Str → Option Value) (base : Heap) (TT : List (Addr × Str)) (k : Nat) (C : Addr) (nm : Str) (ks : List Str) (sp : GDSp S) : Prop where
  ex : ∃ f : Addr, Meth K C nm f ∧ ∀ (A : Around) (outer : List Env) (s : Shared) (H : Hp) (x : Value) (ws : List Value) (v : V) (vs : List V) (Q : VK) (E : XK), Room k A → Env0 P w K mg base A outer s H → RelV v x → Vals vs ws → ws.length = ks.length → spO (LSp K TT sp) (v :: vs) H Q E →
    codeAny (model P w) A (.call (.ref f) ⟨[x], ks.zip ws⟩) (CR (L2.CX P w) outer P w H s Q E) s
section
variable {P : Program} {w : World} {K : PySem.W.Frag} {mg : Str → Option Value} {base : Heap} {TT : List (Addr × Str)} {k : Nat} {sp : GDSp S} {N ps : List Str} {st : Stmt} {C : Addr} {nm qual : Str}
theorem dat_okMRX (F : MdH K C nm qual st) (Sc : FnScope N ps (defScope st))
    (body : ∀ (f : Addr) (cdv : Value) (A : Around) (outer : List Env) (s : Shared) (H : Hp) (E : XK), Room k (A.deeper (envOfC qual (defScope st) s.heap.objs.size f cdv)) →
      ∃ g, PSs (cxOf (L2.CX P w) P w K mg base N qual (defScope st) f cdv A outer s H E) (defBody st) (LS K TT E g) ∧ ∀ ds n PP R, sp ds n PP R → ds.length = ps.length ∧ g { nx := fun _ m => PP .non m, rt := PP, ex := R } (dstart N ds) n)
    (hl : ∀ ds n PP R, sp ds n PP R → ds.length = ps.length) : MdR P w K mg base TT (k + 1) C nm qual st ps sp := by
  obtain ⟨f, fd, F, ha, hf⟩ := F.ex
  have hkp := F.kp
  obtain ⟨oc, od, kV, doc, pm, an, cdv, ct, osl, rfl, lk, hcd⟩ := F.ex
  have len : ∀ vs H Q E, LSp K TT sp vs H Q E → vs.length = ps.length := fun vs H Q E h => by
    obtain ⟨ds, n, PP, R, s, h, _⟩ := h
    rw [s.length]
    exact hl _ _ _ _ h
  refine ⟨f, kV, doc, pm, an, cdv, ct, ⟨len, fun {A fr s H args us vs Q E} hr _ e0 b r q => LamX.run_ofS lk hcd Sc hr e0 b r (len _ _ _ _ q) fun hr' => ?_⟩, ha, hf, hkp⟩
  obtain ⟨g, hp, z⟩ := body f cdv _ _ _ _ _ hr'
  obtain ⟨ds, n, PP, R, se, h, kQ, kE, kS⟩ := q
  exact ⟨_, hp, ends_of se (z ds n PP R h).2 kQ kE kS⟩
theorem MdR.pos (d : MdR P w K mg base TT k C nm qual st ps sp) (hb : ∀ (kV doc pm : Value) (an : Option Addr) (cdv ct : Value) (us : List Value), us.length = ps.length → bindArgs (PySem.W.fnOf nm qual (defArgs st) (defBody st) (defScope st) .none kV doc pm an cdv ct) ⟨us, []⟩ = pure (ps.zip us)) : MdD P w K mg base TT k C nm sp := by
  obtain ⟨f, kV, doc, pm, an, cdv, ct, F, M⟩ := d.ex
  exact ⟨f, fnR_O F (.all (hb kV doc pm an cdv ct)), M⟩
theorem MdR.kw (d : MdR P w K mg base TT k C nm qual st ps sp) (ks : List Str) (hb : ∀ (kV doc pm : Value) (an : Option Addr) (cdv ct x : Value) (ws : List Value), ws.length = ks.length → bindArgs (PySem.W.fnOf nm qual (defArgs st) (defBody st) (defScope st) .none kV doc pm an cdv ct) ⟨[x], ks.zip ws⟩ = pure (ps.zip (x :: ws))) : MdK P w K mg base TT k C nm ks sp := by
  obtain ⟨f, kV, doc, pm, an, cdv, ct, F, M⟩ := d.ex
  refine ⟨f, M, fun A outer s H x ws v vs Q E hr e0 rv r lw h => ?_⟩
  obtain ⟨U, iU, n, h⟩ := h
  refine codeAny_mono (F.run (s := s) (args := ⟨[x], ks.zip ws⟩) hr (fun z => nomatch z) (env0_cutO e0) (.of_eq (hb kV doc pm an cdv ct x ws lw)) (.cons rv r) h) fun y s' hq => ?_
  match y, hq with
  | .error e, hq => exact cx_glueO e0.hok e0.frf hq
  | .ok (.ret u), hq => exact ce_glueO e0.hok e0.frf hq
end
section
variable {X : Cx} {TT : List (Addr × Str)} {E : XK} {k j : Nat} {C : Addr} {m : Str} {sp : GDSp S} {o : Expr} {ks : List Str} {kws : List Keyword} {fo : GDE S} {fr : GDA S} {apos pos : Pos} {pl : Sem Bool}
def dMethK (C : Addr) (m : Str) (l : Nat) (sp : GDSp S) (fo : GDE S) (fr : GDA S) : GDE S := fun ρ n P R => fo ρ n (fun d i => instM C m i d ∧ fr ρ i (fun ds k => ds.length = l ∧ sp (d :: ds) k P R) R) R
theorem de_methK (d : MdK X.prog X.w X.K X.mg X.base TT k C m ks sp) (c : Cls X.K C) (hr : Room j X.A) (hk : k ≤ j) (hx : Passes (L2.CX X.prog X.w) X E) (ho : PE X o (LE X.K TT E fo)) (hkw : PK X kws (LA X.K TT E fr))
    (hall : (backToKw pos (keywordEach kws X.env)).all (·.1.isSome) = true := by rfl) (hks : (backToKw pos (keywordEach kws X.env)).filterMap (·.1) = ks := by rfl)
    (hpl : ((backTo pos (starEach [] X.env)).any (·.1) || (backToKw pos (keywordEach kws X.env)).any (·.1.isNone)) = false := by rfl)
    (ht : eval (.Call (.Attribute o m apos) [] kws pos) X.env = (do
      let ov ← eval o X.env
      standAt apos.atName
      let (f, first) ← holding [ov] (getMethod ov m pl)
      callWith pos f first (backTo pos (starEach [] X.env)) (backToKw pos (keywordEach kws X.env))) := by rfl) : PE X (.Call (.Attribute o m apos) [] kws pos) (LE X.K TT E (dMethK C m ks.length sp fo fr)) := by
  obtain ⟨f, M, F⟩ := d.ex
  refine ⟨fun pins s σ H Q I ⟨ρ, n, P, R, rl, q, k, x⟩ => ?_⟩
  refine PySem.W.methodCall_KW (pl := pl) (thn (ho.run pins s σ H (fun v H1 => ∃ d i, Fre X.K TT n H i H1 ∧ Sees X.K i H1 v d ∧ instM C m i d ∧ fr ρ i (fun ds k => ds.length = ks.length ∧ sp (d :: ds) k P R) R) I ⟨ρ, n, _, R, rl, q, fun d i v H1 z e1 s => ⟨d, i, e1, s, z⟩, x⟩) fun u s1 ⟨v, H1, I1, r, d, i, e1, sv, hi, z⟩ => ?_) ht
  refine getmeth_A I1 c M hi sv (e1.st rl.st) r fun a ev eu => ?_
  subst ev
  subst eu
  refine PySem.W.callWith_KW0 (first := [.ref a]) (h₀ := X.base) I1.ok.mod.kin M.kp hall ?_ hpl
  refine thn (hkw.run pos pins s1 σ H1 (fun vs H2 => vs.length = ks.length ∧ spO (LSp X.K TT sp) (.ref a :: vs) H2 Q E) I1 ⟨ρ, i, _, R, rl.fre e1, z, fun ds j vs H2 z2 e2 s2 => ⟨by rw [s2.length]; exact z2.1, spO_at x rl.st (e1.trans e2) (.cons (sv.mono e2.toFra) s2) z2.2 k⟩, x.mono e1⟩) fun ws s2 ⟨vs, H2, I2, r2, lv, q2⟩ => ⟨I2.kIn, ?_⟩
  rw [hks]
  refine wpAny_call (codeAny_mono (F X.A X.stack s2 H2 (.ref a) ws (.ref a) vs Q E (hr.mono hk) I2.env0 rfl r2 (by rw [← r2.length]; exact lv) q2) fun y s' hq => ?_)
  match y, hq with
  | .error e, hq => exact hx pins σ H2 s2 e s' I2 hq
  | .ok (.ret u), hq => exact I2.after hq
end
/-! ### an __init__ over the store, with defaults -/
structure MadeS (P : Program) (w : World) (K : PySem.W.Frag) (mg : Str → Option Value) (base : Heap) (TT : List (Addr × Str)) (k : Nat) (C : Addr) (qual : Str) (st : Stmt) (dvs : List V) (ps : List Str) (sp : GDSp S) : Prop where
  ex : ∃ (f : Addr) (fd : FuncData), FunD K "__init__" qual (defArgs st) (defBody st) (defScope st) dvs [] f fd ∧ Mk K C f ∧ Rn P w K mg base false k f fd ps (LSp K TT sp)
section
variable {P : Program} {w : World} {K : PySem.W.Frag} {mg : Str → Option Value} {base : Heap} {TT : List (Addr × Str)} {k : Nat} {sp : GDSp S} {N ps : List Str} {st : Stmt} {qual : Str} {C : Addr} {dvs : List V}
theorem inis_ok (F : MkHD K C qual st dvs) (Sc : FnScope N ps (defScope st))
    (body : ∀ (f : Addr) (cdv : Value) (A : Around) (outer : List Env) (s : Shared) (H : Hp) (E : XK), Room k (A.deeper (envOfC qual (defScope st) s.heap.objs.size f cdv)) →
      ∃ g, PSs (cxOf (L2.CX P w) P w K mg base N qual (defScope st) f cdv A outer s H E) (defBody st) (LS K TT E g) ∧ ∀ ds n PP R, sp ds n PP R → ds.length = ps.length ∧ g { nx := fun _ m => PP .non m, rt := PP, ex := R } (dstart N ds) n)
    (hl : ∀ ds n PP R, sp ds n PP R → ds.length = ps.length) : MadeS P w K mg base TT (k + 1) C qual st dvs ps sp := by
  obtain ⟨f, fd, F, M⟩ := F.ex
  obtain ⟨oc, od, dV, kV, doc, pm, an, cdv, ct, osl, e, lk, hcd, _, _⟩ := id F.ex
  subst e
  have len : ∀ vs H Q E, LSp K TT sp vs H Q E → vs.length = ps.length := fun vs H Q E h => by
    obtain ⟨ds, n, PP, R, s, h, _⟩ := h
    rw [s.length]
    exact hl _ _ _ _ h
  refine ⟨f, _, F, M, ⟨len, fun {A fr s H args us vs Q E} hr _ e0 b r q => LamX.run_ofS lk hcd Sc hr e0 b r (len _ _ _ _ q) fun hr' => ?_⟩⟩
  obtain ⟨g, hp, z⟩ := body f cdv _ _ _ _ _ hr'
  obtain ⟨ds, n, PP, R, se, h, kQ, kE, kS⟩ := q
  exact ⟨_, hp, ends_of se (z ds n PP R h).2 kQ kE kS⟩
/-- all parameters by position -/
theorem MadeS.pos (d : MadeS P w K mg base TT k C qual st dvs ps sp) (hd : dvs ≠ [])
    (h : ∀ (T : Addr) (kV doc pm : Value) (an : Option Addr) (cdv ct : Value) (us its : List Value), us.length = ps.length → its.length = dvs.length →
      ∃ k, bindArgs (PySem.W.fnOf "__init__" qual (defArgs st) (defBody st) (defScope st) (.ref T) kV doc pm an cdv ct) ⟨us, []⟩ = seqItems? (.ref T) >>= k ∧ k (some its.toArray) = pure (ps.zip us)) : MdD P w K mg base TT k C "__init__" sp ∧ ∃ f, Mk K C f := by
  obtain ⟨f, fd, F, M, R⟩ := d.ex
  obtain ⟨ds, rv, B⟩ := F.binds1 ps.length dvs.length hd (show ps.length + (dvs.length - dvs.length) = ps.length by omega) fun T kV doc pm an cdv ct us its h1 h2 => by
    obtain ⟨k, e1, e2⟩ := h T kV doc pm an cdv ct us its h1 h2
    refine ⟨k, e1, ?_⟩
    rw [List.drop_of_length_le (by omega), List.append_nil]
    exact e2
  have e : ds = [] := by
    rw [List.drop_of_length_le (Nat.le_refl _)] at rv
    cases rv
    rfl
  subst e
  exact ⟨⟨f, fnR_O R B, M.init, M.fn, F.kp⟩, f, M⟩
end
end Aim

namespace Aim
open PySem PySem.Spec PyProof.Rows L2
open LamX (TabB Tabs CodeO)
open Stt (cnt sto)
/-! ### a def that knows of no store, called beside a store -/
section
variable {K : PySem.W.Frag} {TT : List (Addr × Str)} {E : XK} {H H1 G : Hp} {s m : SS} {j : Nat}
theorem frb_up (f : Frb (S := Nat) m.n H j G) : Frb (S := SS) m H (m.put j) G := ⟨f.le, f.keep, f.pot⟩
theorem fre_up (f : Fre (S := Nat) K TT m.n H j G) : Fre (S := SS) K TT m H (m.put j) G :=
  ⟨⟨⟨f.le, f.keep, f.pot⟩, f.tab, fun t => t.mono (frb_up f.toFrb) rfl fun a xs sh _ e => (f.own a xs e rfl).1⟩, fun b xs e s => ⟨(f.own b xs e rfl).1, s⟩⟩
theorem sees_up {v : V} {d : Dat} (h : Sees (S := Nat) K j G v d) : Sees (S := SS) K (m.put j) G v d := h.cast (Nat.le_refl j)
theorem spO_hid {sp : DSp} {vs : List V} {ds : List Dat} {P : Dat → SS → Prop} {R : GRX SS} {Q : VK} (x : ExE K TT E s H R) (st : StoOk K s H) (e : Fre K TT s H m H1) (se : SeesL K m H1 vs ds) (q : sp ds m.n (fun d k => P d (m.put k)) (fun C d k => R C d (m.put k)))
    (k : ∀ d j v H', P d j → Fre K TT s H j H' → Sees K j H' v d → Q v H') : spO (LSp (S := Nat) K TT sp) vs H1 Q E :=
  ⟨Nat, _, m.n, ds, m.n, _, _, (se.cast (m := (m.n : Nat)) (Nat.le_refl m.n)).mono (TT := TT) Fra.cut, q,
    fun d j v G p g t gone => k d (m.put j) v _ p (e.trans (fre_up (.glue g .nat gone))) (sees_up (t.grow (grow_glue gone))),
    ⟨(Fra.cut (K := K) (n := (m.n : Nat))).tab (e.tab x.tab), fun C d j dd v G p g hd t gone => x.ex C d (m.put j) dd v _ p (e.trans (fre_up (Fre.glue g .nat gone))) (grow_glue gone _ _ hd) (sees_up (t.grow (grow_glue gone)))⟩, .nat⟩
end
def dHid (sp : DSp) (fr : GDA SS) : GDE SS := fun ρ s P R => fr ρ s (fun ds m => sp ds m.n (fun d k => P d (m.put k)) (fun C d k => R C d (m.put k))) R
section
variable {X : Cx} {TT : List (Addr × Str)} {E : XK} {k j : Nat} {G : Bool} {x : Str} {sp : DSp} {e : Expr} {es : List Expr} {fr : GDA SS} {p pos : Pos}
theorem de_callN (d : Df X.prog X.w X.K X.mg X.base G k x (LSp (S := Nat) X.K TT sp)) (hr : Room j X.A) (hk : k ≤ j) (hg : G = true → X.A.guards = some []) (gl : Gl X x) (hx : Passes (L2.CX X.prog X.w) X E) (ha : PA X (e :: es) (LA X.K TT E fr))
    (hdb : (x == ("__debug__" : Str)) = false := by decide) (he : starEach (e :: es) X.env = (false, eval e X.env) :: starEach es X.env := by rfl) (hpl : (backTo pos (starEach es X.env)).any (·.1) = false := by rfl) :
    PE X (.Call (.Name x p) (e :: es) [] pos) (LE X.K TT E (dHid sp fr)) := by
  obtain ⟨f, fd, ps, F, hm, hkp, hb⟩ := d.ex
  refine ⟨fun pins s σ H Q I ⟨ρ, n, P, R, rl, q, k, xe⟩ => wpAny_Call_Name_kw (ld_glob I gl hm ?_ hdb)⟩
  exact PySem.W.callWith_K (h₀ := X.base) I.ok.mod.kin hkp (thn (ha.run pos pins s σ H (fun vs H1 => spO (LSp (S := Nat) X.K TT sp) vs H1 Q E) I ⟨ρ, n, _, R, rl, q, fun ds m vs H1 z e se => spO_hid xe rl.st e se z k, xe⟩) fun us s1 ⟨vs, H1, I1, r, q⟩ => ⟨I1.kIn, run_dfO F (hr.mono hk) hg hb hx I1 r q⟩) he hpl
end
end Aim

namespace Aim
open PySem PySem.Spec PyProof.Rows L2
open LamX (TabB Tabs CodeO)
open Stt (cnt sto)
/-! ### a method that knows of no store, called beside a store; one of a store, called where none is -/
def hidSp (sp : DSp) : GDSp SS := fun ds s P R => sp ds s.n (fun d k => P d (s.put k)) (fun C d k => R C d (s.put k))
section
variable {P : Program} {w : World} {K : PySem.W.Frag} {mg : Str → Option Value} {base : Heap} {TT : List (Addr × Str)} {k : Nat}
theorem fnR_hid {f : Addr} {sp : DSp} (F : FnR P w K mg base (L2.CX P w) k f (spO (LSp (S := Nat) K TT sp))) : FnR P w K mg base (L2.CX P w) k f (spO (LSp (S := SS) K TT (hidSp sp))) := by
  intro A outer s H us vs Q E hr e0 r h
  obtain ⟨U, iU, n, h⟩ := h
  obtain ⟨ds, st, PP, R, se, q, kQ, kE, kS⟩ := h
  have h2 := spO_hid (H := cutO n H) kE.toE kS .refl se q (fun d j v H' p e t => kQ d j v H' p e.toFra t)
  refine codeAny_mono (F A outer s (cutO n H) us vs _ _ hr (env0_cutO e0) r h2) fun y s' hq => ?_
  match y, hq with
  | .error e, hq => exact cx_glueO e0.hok e0.frf hq
  | .ok (.ret u), hq => exact ce_glueO e0.hok e0.frf hq
theorem MdD.hid {C : Addr} {nm : Str} {sp : DSp} (d : MdD (S := Nat) P w K mg base TT k C nm sp) : MdD (S := SS) P w K mg base TT k C nm (hidSp sp) := by
  obtain ⟨f, F, M⟩ := d.ex
  exact ⟨f, fnR_hid F, M⟩
theorem spO_mono {sp sp' : Sp} (h : ∀ vs H Q E, sp vs H Q E → sp' vs H Q E) {vs : List V} {H : Hp} {Q : VK} {E : XK} (q : spO sp vs H Q E) : spO sp' vs H Q E := by
  obtain ⟨U, iU, n, q⟩ := q
  exact ⟨U, iU, n, h _ _ _ _ q⟩
theorem MdD.emp {C : Addr} {nm : Str} {sp : GDSp SS} (d : MdD (S := SS) P w K mg base TT k C nm sp) : MdD (S := Nat) P w K mg base TT k C nm (empSp sp) := by
  obtain ⟨f, F, M⟩ := d.ex
  exact ⟨f, fun A outer s H us vs Q E hr e0 r h => F A outer s H us vs Q E hr e0 r (spO_mono (fun _ _ _ _ z => lsp_emp z) h), M⟩
end
/-- what has no lists and no instances -/
theorem calmS_refl {s : SS} {ds : List Dat} : FrzSls s (ds.map .val) (ds.map .val) := by
  induction ds with
  | nil => exact .nil
  | cons d ds ih => exact .cons (.same _) ih
/-! ### a getter of a thing of the store -/
def dPropS (C : Addr) (sp : DSp) (f : GDE SS) : GDE SS := fun ρ s P R => f ρ s (fun d m => ∃ d', FrzD m d d' ∧ isObj C d' ∧ sp [d'] m.n (fun z k => calmS (offS m) z ∧ P z (m.put k)) R0) R
section
variable {X : Cx} {TT : List (Addr × Str)} {E : XK} {C : Addr} {nm : Str} {e : Expr} {pos : Pos} {k j : Nat} {sp : DSp} {fe : GDE SS}
theorem de_propS (d : PpD (S := Nat) X.prog X.w X.K X.mg X.base TT k C nm sp) (c : Cls X.K C) (hr : Room j X.A) (hk : k + 1 ≤ j) (he : PE X e (LE X.K TT E fe)) (hab : attributeBase e nm X.env (eval e X.env) = eval e X.env := by rfl) : PE X (.Attribute e nm pos) (LE X.K TT E (dPropS C sp fe)) := by
  obtain ⟨p, g, hp, F⟩ := d.ex
  refine ⟨fun pins s σ H Q I ⟨ρ, n, P, R, rl, q, kk, x⟩ => ?_⟩
  refine attr_of hab (thn (he.run pins s σ H (fun v H1 => ∃ d m, Fre X.K TT n H m H1 ∧ Sees X.K m H1 v d ∧ ∃ d', FrzD m d d' ∧ isObj C d' ∧ sp [d'] m.n (fun z k => calmS (offS m) z ∧ P z (m.put k)) R0) I ⟨ρ, n, _, R, rl, q, fun d m v H1 z e s => ⟨d, m, e, s, z⟩, x⟩) fun u s1 ⟨v, H1, I1, r, d, m, e1, sv, d', fz, io, z⟩ => ?_)
  have t : StoOk X.K m H1 := e1.st rl.st
  have sf := sv.frz t fz
  obtain ⟨a, dx, fs, ev, ha⟩ := isObj_at (X := X) io sf
  subst ev
  obtain rfl : u = Value.ref a := r
  have I2 := (frF_ok t I1.hok).inv I1
  refine wpAny_mono (getprop_R (E := E0) (Q := fun v G => ∃ z k, Fre X.K TT m.n (rt (frF X.K m H1) H1) k G ∧ Sees X.K k G v z ∧ calmS (offS m) z ∧ P z (m.put k)) I2 ha c hp F (hr.mono hk) (fun _ _ _ _ _ _ _ h => (passL (X := X.nox)) _ _ _ _ _ _ (by assumption) h) ?_) (fun r s' hq => ?_) (fun _ _ e => e)
  · exact spO_go (E := E0) (X := X) (TT := TT) (n := m.n) (m := m.n) (.zero (tabs_frz t (x.mono e1).tab)) .nat .refl (.cons sf .nil) z fun d j v G p e s => ⟨d, j, e, s, p.1, p.2⟩
  · obtain ⟨v, G, I3, rv, z, k, e3, s3, cm, p⟩ := hq
    have nw := news_fra t e3.toFrb
    exact ⟨v, rt (frF X.K m H1).sw G, (frF_back t I3.hok nw).inv I3, rv, kk z _ v _ p (e1.trans (.thaw t e3)) (s3.thaw t nw cm)⟩
end
end Aim

namespace PySem.W
open PySem PySem.Calls PyProof.Rows Builtin
section
variable {prog : Program} {w : World} {A : Around} {E : Value → Shared → Prop} {s : Shared} {K : Frag} {x C L f : Addr} {h₀ : Heap} {m : Str → Option Value} {ox : Obj} {od : Option Obj} {b tb : Value}
/-- a special of a built-in kind, found on one's own instance -/
theorem aim_ifB {M : Model} {nm : Str} {id : String} {us : List Value} {Q : Option Value → Shared → Prop} (X : K.In s.heap) (J : InstAt s.heap x ox C od) (at_ : findIn K (.ref C) nm = some (some (.builtin id))) (bd : ∀ self, bindSpecial (.builtin id) self = pure (.builtin id, [self]))
    (go : wpAny M A (call (.builtin id) (.ref x :: us)) (fun v => Q (some v)) E s) : wpAny M A (callSpecialIfBound? (.ref x) nm us) Q E s := by
  have last : wpAny M A (call (.builtin id) ([.ref x] ++ us) >>= fun v => pure (some v)) Q E s := wpAny_bind (wpAny_mono go (fun _ _ z => wpAny_pure z) fun _ _ z => z)
  have bnd := (Looks.of_pure (M := M) (h := s.heap) (bd (.ref x)))
  simp only [callSpecialIfBound?, bindSpecialIfBound?]
  refine wpAny_holding (wpAny_bind (wpAny_bind (wpAny_bind (J.type.here ((looks_findIn X at_).here (wpAny_bind (wpAny_askSetting (wpAny_ite ?_))))))))
  split
  · exact wpAny_bind (bnd.here (wpAny_pure last))
  · exact wpAny_tryCatch (wpAny_bind (bnd.here (wpAny_pure last)))
/-- object.__ne__ by an __eq__ of one's own -/
theorem aim_objNe {Q : Value → Shared → Prop} (hu : A.in1.units < cLine) (X : K.In s.heap) (J : InstAt s.heap x ox C od) (ob : mroIn K C (.type "object") = some true) (at_ : findIn K (.ref C) "__eq__" = some (some (.ref f))) (fn : isFn K (.ref f) = true)
    (go : wpAny (model prog w) A.in1 (call (.ref f) [.ref x, b]) (fun v s' => ∃ c, v = .bool c ∧ Q (.bool (!c)) s') E s) : wpAny (model prog w) A (call (.builtin "object.__ne__") [.ref x, b]) Q E s := by
  have entry := wpAny_call (codeAny_call_builtin (prog := prog) (w := w) (A := A) (s := s) F.slot_object_ne.plain F.entry_object_ne (check_slot (i := "object.__ne__") (owner := "object") (n := "__ne__") (self := .ref x) (rest := [b]) (kw := []) F.cmpKind_ne F.cmpSplit_ne (J.type.andThen (looks_mroIn X ob)) (F.cmpArgs_ne _ _) (show wpAny (model prog w) A.in1 (Builtin.«object.__ne__» ⟨[.ref x, b], []⟩) _ _ s from ?_))) (Q := Q) (E := E)
  · exact entry
  · unfold Builtin.«object.__ne__»
    refine wpAny_bind (m := slotArgs "__ne__" 1 _) (wpAny_pure (wpAny_bind (m := cRoomFor _ _) (wpAny_cRoomFor hu ?_)))
    refine wpAny_bind (m := callSpecialIfBound? (.ref x) (Str.ofString "__eq__") _) (ifBound_K X J at_ fn (wpAny_mono go (fun r s' z => ?_) fun _ _ z => z))
    obtain ⟨c, rfl, q⟩ := z
    exact wpAny_bind (m := truthy (.bool c)) (wpAny_truthy_bool (wpAny_pure q))
/-- x != b, by an __eq__ of one's own -/
theorem aim_ne {Q : Value → Shared → Prop} (hu : A.units < cLine) (hu1 : A.in1.units < cLine) (X : K.In s.heap) (J : InstAt s.heap x ox C od) (hb : Looks (model prog w) s.heap (typeOf b) tb) (nf : notFirst K C tb = true) (n0 : findIn K (.ref C) "__ne__" = some (some (.builtin "object.__ne__"))) (ob : mroIn K C (.type "object") = some true)
    (at_ : findIn K (.ref C) "__eq__" = some (some (.ref f))) (fn : isFn K (.ref f) = true) (go : wpAny (model prog w) A.in1 (call (.ref f) [.ref x, b]) (fun v s' => ∃ c, v = .bool c ∧ Q (.bool (!c)) s') E s) : wpAny (model prog w) A (richCompare .NotEq (.ref x) b) Q E s := by
  have first : wpAny (model prog w) A (tryCompare (.ref x) "__ne__" b) (fun r s' => ∃ v, r = some v ∧ Q v s') E s := by
    unfold tryCompare
    refine wpAny_bind (aim_ifB X J n0 F.slot_object_ne.bind (aim_objNe hu1 X J ob at_ fn (wpAny_mono go (fun v s' z => ?_) fun _ _ z => z)))
    obtain ⟨c, rfl, q⟩ := z
    exact ⟨c, rfl, wpAny_pure ⟨_, rfl, q⟩⟩
  have first : wpAny (model prog w) A (tryCompare (.ref x) (cmpInfo .NotEq).2.1 b) (fun r s' => ∃ v, r = some v ∧ Q v s') E s := first
  unfold richCompare
  simp only [oneThing_ref]
  refine wpAny_holding (wpAny_bind (wpAny_cRoomFor hu (wpAny_bind (J.type.here (wpAny_bind (hb.here ?_))))))
  split
  · rename_i ne
    have sub : subIn K tb (.ref C) = some false := by
      unfold notFirst at nf
      rw [Bool.or_eq_true, beq_iff_eq, beq_iff_eq] at nf
      rcases nf with z | z
      · rw [z] at ne; simp at ne
      · exact z
    refine wpAny_bind ((looks_subIn X sub).here ?_)
    simp only [Bool.false_eq_true, if_false]
    exact wpAny_bind (wpAny_mono first (fun r s' ⟨v, e, q⟩ => by subst e; exact wpAny_pure q) fun _ _ z => z)
  · simp only [pure_bind, Bool.false_eq_true, if_false]
    exact wpAny_bind (wpAny_mono first (fun r s' ⟨v, e, q⟩ => by subst e; exact wpAny_pure q) fun _ _ z => z)
end
end PySem.W
namespace Aim
open PySem PySem.Spec PyProof.Rows L2
open LamX (TabB Tabs CodeO)
open Stt (cnt sto)
variable {S : Type} [Stt S]
/-! ### operators of one's own class, any data on the right -/
section
variable {X : Cx} {pins : List (Addr × Obj)} {σ : L2.St} {H : Hp} {s : Shared} {k j : Nat} {C f : Addr} {sp : Sp} {E : XK}
theorem tyx_type {y : V} {u : Value} {t : String} (I : Inv X pins σ H s) (h : TyX X.K H y (.type t)) (r : RelV y u) : PySem.W.Looks (model X.prog X.w) s.heap (typeOf u) (.type t) := by
  obtain ⟨P, Z, p, _⟩ := kit_of I r h
  exact Z.ty _ _ I.kIn p
/-- what may stand on the right: a thing of the class, or data of a built-in type -/
def RgtOk (K : PySem.W.Frag) (H : Hp) (C : Addr) (y : V) : Prop := (∃ b, y = .ref b ∧ IsAt H b C) ∨ ∃ t ∈ (["NoneType", "bool", "int", "str", "tuple", "list", "dict", "float", "bytes"] : List String), TyX K H y (.type t)
theorem RgtOk.looks {y : V} {u : Value} (I : Inv X pins σ H s) (sn : SubN X.K C) (h : RgtOk X.K H C y) (r : RelV y u) : ∃ tb, PySem.W.Looks (model X.prog X.w) s.heap (typeOf u) tb ∧ PySem.W.notFirst X.K C tb = true := by
  rcases h with ⟨b, rfl, hb⟩ | ⟨t, ht, hy⟩
  · obtain rfl : u = Value.ref b := r
    obtain ⟨ox, od, J⟩ := hb.inst I
    exact ⟨_, J.type, by unfold PySem.W.notFirst; simp⟩
  · exact ⟨_, tyx_type I hy r, by unfold PySem.W.notFirst; simp [sn t ht]⟩
def rCmpB (K : PySem.W.Frag) (C : Addr) (sp : Sp) (E : XK) : R2 := fun x y H Q => ∃ a, x = .ref a ∧ IsAt H a C ∧ RgtOk K H C y ∧ sp [.ref a, y] H Q E
theorem op_cmpB {op : CmpOp} (d : Meth X.K C (cmpInfo op).2.1 f) (sn : SubN X.K C) (F : FnR X.prog X.w X.K X.mg X.base (L2.CX X.prog X.w) k f sp) (hop : ∀ a b, compareOp op a b = richCompare op a b) (hr : Room k X.A) (hx : Passes (L2.CX X.prog X.w) X E) : OpR X (compareOp op) (rCmpB X.K C sp E) := by
  intro pins s σ H x y v u Q I rx ry ⟨a, ex, ha, hy, q⟩
  subst ex
  obtain rfl : v = Value.ref a := rx
  obtain ⟨m, fr⟩ := inv_fr I
  obtain ⟨ox, od, J⟩ := ha.inst I
  obtain ⟨tb, h1, h2⟩ := hy.looks I sn ry
  rw [hop]
  refine PySem.W.cmp_K (by have := hr.units; omega) fr I.ok.mod.kin J h1 h2 d.at_ d.fn (wpAny_mono (wpAny_call (run_fnR F hr hx I (us := [Value.ref a, u]) (vs := [V.ref a, y]) (.cons (show RelV (V.ref a) (Value.ref a) from rfl) (.cons ry .nil)) q)) (fun r s' z => ?_) fun _ _ e => e)
  obtain ⟨w, H', I', rw', q'⟩ := z
  exact back_of (rel_not rw') ⟨w, H', I', rw', q'⟩
/-- x != y -/
structure NeT (K : PySem.W.Frag) (C : Addr) : Prop where
  ne : PySem.W.findIn K (.ref C) "__ne__" = some (some (.builtin "object.__ne__"))
  ob : PySem.W.mroIn K C (.type "object") = some true
def rNeB (K : PySem.W.Frag) (C : Addr) (sp : Sp) (E : XK) : R2 := fun x y H Q => ∃ a, x = .ref a ∧ IsAt H a C ∧ RgtOk K H C y ∧ sp [.ref a, y] H (fun v H' => ∃ c, v = .bl c ∧ Q (.bl (!c)) H') E
theorem op_neB (d : Meth X.K C "__eq__" f) (sn : SubN X.K C) (T : NeT X.K C) (F : FnR X.prog X.w X.K X.mg X.base (L2.CX X.prog X.w) k f sp) (hr : Room (k + 1) X.A) (hx : Passes (L2.CX X.prog X.w) X E) : OpR X (compareOp .NotEq) (rNeB X.K C sp E) := by
  intro pins s σ H x y v u Q I rx ry ⟨a, ex, ha, hy, q⟩
  subst ex
  obtain rfl : v = Value.ref a := rx
  obtain ⟨ox, od, J⟩ := ha.inst I
  obtain ⟨tb, h1, h2⟩ := hy.looks I sn ry
  refine PySem.W.aim_ne (by have := hr.units; omega) (by have := hr.in1.units; omega) I.kIn J h1 h2 T.ne T.ob d.at_ d.fn (wpAny_mono (wpAny_call (run_fnR1 F hr hx I (us := [Value.ref a, u]) (vs := [V.ref a, y]) (.cons (show RelV (V.ref a) (Value.ref a) from rfl) (.cons ry .nil)) q)) (fun r s' z => ?_) fun _ _ e => e)
  obtain ⟨w, H', I', rw', c, rfl, q'⟩ := z
  obtain rfl : r = Value.bool c := rw'
  exact ⟨c, rfl, ⟨.bl (!c), H', I', (show RelV (V.bl (!c)) (Value.bool (!c)) from rfl), q'⟩⟩
/-- x op y -/
def rBinB (K : PySem.W.Frag) (C : Addr) (sp : Sp) (E : XK) : R2 := fun x y H Q => ∃ a, x = .ref a ∧ IsAt H a C ∧ RgtOk K H C y ∧ sp [.ref a, y] H Q E
theorem op_binB {op : Operator} (d : Meth X.K C (PySem.dunder op.info.2) f) (hc : PySem.W.selfFirst X.K C = true) (T : BinT X.K C op.info.2) (F : FnR X.prog X.w X.K X.mg X.base (L2.CX X.prog X.w) k f sp) (hr : Room k X.A) (hx : Passes (L2.CX X.prog X.w) X E) : OpR X (binaryOp op) (rBinB X.K C sp E) := by
  intro pins s σ H x y v u Q I rx ry ⟨a, ex, ha, hy, q⟩
  subst ex
  obtain rfl : v = Value.ref a := rx
  obtain ⟨m, fr⟩ := inv_fr I
  obtain ⟨ox, od, J⟩ := ha.inst I
  have run := wpAny_mono (wpAny_call (run_fnR F hr hx I (us := [Value.ref a, u]) (vs := [V.ref a, y]) (.cons (show RelV (V.ref a) (Value.ref a) from rfl) (.cons ry .nil)) q)) (Q' := PySem.W.CmpBack (EP X pins σ Q)) (fun r s' z => by
    obtain ⟨w, H', I', rw', q'⟩ := z
    exact back_of (rel_not rw') ⟨w, H', I', rw', q'⟩) fun _ _ e => e
  rcases hy with ⟨b, rfl, hb⟩ | ⟨t, ht, hy⟩
  · obtain rfl : u = Value.ref b := ry
    obtain ⟨ox', od', J'⟩ := hb.inst I
    exact PySem.W.binop_K fr I.ok.mod.kin J J'.type hc d.at_ d.fn run
  · obtain ⟨rc, h1, h2⟩ := T.rc
    obtain ⟨fo, ro, h3, h4⟩ := T.ty t ht
    exact PySem.W.aim_binL fr I.ok.mod.kin J (tyx_type I hy ry) hc d.at_ d.fn h1 h2 h3 h4 (T.sn t ht) run
end
/-! ### by data -/
section
variable {X : Cx} {TT : List (Addr × Str)} {E : XK} {k j : Nat} {C : Addr} {sp : GDSp S} {a b : Expr} {fa fb : GDE S} {pos : Pos}
def rgtD (C : Addr) (n : S) (e : Dat) : Prop := instD C n e ∨ (tyK e).isSome = true
theorem rgt_at {K : PySem.W.Frag} {n : S} {H : Hp} {v : V} {e : Dat} (h : rgtD C n e) (s : Sees K n H v e) (st : StoOk K n H) : RgtOk K H C v := by
  rcases h with h | h
  · exact .inl (instD_at h s st)
  · obtain ⟨t, ht⟩ := Option.isSome_iff_exists.mp h
    refine .inr ⟨t, ?_, s.tyx ht⟩
    rcases tyK_mem ht with h | h | h | h | h | h | h | h <;> subst h <;> simp
def dOpB (C : Addr) (sp : GDSp S) (fa fb : GDE S) : GDE S := fun ρ n P R => fa ρ n (fun d m => fb ρ m (fun e k => instD C k d ∧ rgtD C k e ∧ sp [d, e] k P R) R) R
def dNeB (C : Addr) (sp : GDSp S) (fa fb : GDE S) : GDE S := fun ρ n P R => fa ρ n (fun d m => fb ρ m (fun e k => instD C k d ∧ rgtD C k e ∧ sp [d, e] k (fun z j => asB z fun c => P (.bl (!c)) j) R) R) R
theorem LE.cmpB {σ : L2.St} {H : Hp} {Q : VK} (h : LE X.K TT E (dOpB C sp fa fb) σ H Q) : tOp (rCmpB X.K C (spO (LSp X.K TT sp)) E) (LE X.K TT E fa) (LE X.K TT E fb) σ H Q := by
  obtain ⟨ρ, n, P, R, rl, f, k, x⟩ := h
  refine ⟨ρ, n, _, R, rl, f, fun d m v H1 q1 e1 s1 => ⟨ρ, m, _, R, rl.fre e1, q1, fun e j u H2 q2 e2 s2 => ?_, x.mono e1⟩, x⟩
  obtain ⟨hd, he, q⟩ := q2
  have e12 := e1.trans e2
  have st := e12.st rl.st
  have s1 := s1.mono e2.toFra
  obtain ⟨a, rfl, ha⟩ := instD_at hd s1 st
  exact ⟨a, rfl, ha, rgt_at he s2 st, spO_go x rl.st e12 (.cons s1 (.cons s2 .nil)) q k⟩
theorem LE.neB {σ : L2.St} {H : Hp} {Q : VK} (h : LE X.K TT E (dNeB C sp fa fb) σ H Q) : tOp (rNeB X.K C (spO (LSp X.K TT sp)) E) (LE X.K TT E fa) (LE X.K TT E fb) σ H Q := by
  obtain ⟨ρ, n, P, R, rl, f, k, x⟩ := h
  refine ⟨ρ, n, _, R, rl, f, fun d m v H1 q1 e1 s1 => ⟨ρ, m, _, R, rl.fre e1, q1, fun e j u H2 q2 e2 s2 => ?_, x.mono e1⟩, x⟩
  obtain ⟨hd, he, q⟩ := q2
  have e12 := e1.trans e2
  have st := e12.st rl.st
  have s1 := s1.mono e2.toFra
  obtain ⟨a, rfl, ha⟩ := instD_at hd s1 st
  refine ⟨a, rfl, ha, rgt_at he s2 st, spO_go x rl.st e12 (.cons s1 (.cons s2 .nil)) q fun z i v H' p e s => ?_⟩
  obtain ⟨c, rfl, p⟩ := asB_of p
  exact ⟨c, s.bl_iff, k _ i _ H' p e (.bl _)⟩
theorem de_cmpB {op : CmpOp} (d : MdD X.prog X.w X.K X.mg X.base TT k C (cmpInfo op).2.1 sp) (sn : SubN X.K C) (hop : ∀ a b, compareOp op a b = richCompare op a b) (hr : Room j X.A) (hk : k ≤ j) (hx : Passes (L2.CX X.prog X.w) X E) (ha : PE X a (LE X.K TT E fa)) (hb : PE X b (LE X.K TT E fb)) (hm : behindInMarks op b = false) : PE X (.Compare a [op] [b] pos) (LE X.K TT E (dOpB C sp fa fb)) := by
  obtain ⟨f, F, M⟩ := d.ex
  exact (pe_cmpR (op_cmpB M sn F hop (hr.mono hk) hx) ha hb hm).imp fun _ _ _ h => h.cmpB
theorem dt_cmpB {op : CmpOp} (d : MdD X.prog X.w X.K X.mg X.base TT k C (cmpInfo op).2.1 sp) (sn : SubN X.K C) (hop : ∀ a b, compareOp op a b = richCompare op a b) (hr : Room j X.A) (hk : k ≤ j) (hx : Passes (L2.CX X.prog X.w) X E) (ha : PE X a (LE X.K TT E fa)) (hb : PE X b (LE X.K TT E fb)) (hm : behindInMarks op b = false) : PT X (.Compare a [op] [b] pos) (LTs X.K TT E (dTst (dOpB C sp fa fb))) := by
  obtain ⟨f, F, M⟩ := d.ex
  exact (pt_cmpR (op_cmpB M sn F hop (hr.mono hk) hx) ha hb hm).imp fun _ _ _ h => by
    have q := h.tst
    exact q.cmpB
theorem de_neB (d : MdD X.prog X.w X.K X.mg X.base TT k C "__eq__" sp) (sn : SubN X.K C) (T : NeT X.K C) (hr : Room j X.A) (hk : k + 1 ≤ j) (hx : Passes (L2.CX X.prog X.w) X E) (ha : PE X a (LE X.K TT E fa)) (hb : PE X b (LE X.K TT E fb)) (hm : behindInMarks .NotEq b = false) : PE X (.Compare a [.NotEq] [b] pos) (LE X.K TT E (dNeB C sp fa fb)) := by
  obtain ⟨f, F, M⟩ := d.ex
  exact (pe_cmpR (op_neB M sn T F (hr.mono hk) hx) ha hb hm).imp fun _ _ _ h => h.neB
theorem dt_neB (d : MdD X.prog X.w X.K X.mg X.base TT k C "__eq__" sp) (sn : SubN X.K C) (T : NeT X.K C) (hr : Room j X.A) (hk : k + 1 ≤ j) (hx : Passes (L2.CX X.prog X.w) X E) (ha : PE X a (LE X.K TT E fa)) (hb : PE X b (LE X.K TT E fb)) (hm : behindInMarks .NotEq b = false) : PT X (.Compare a [.NotEq] [b] pos) (LTs X.K TT E (dTst (dNeB C sp fa fb))) := by
  obtain ⟨f, F, M⟩ := d.ex
  exact (pt_cmpR (op_neB M sn T F (hr.mono hk) hx) ha hb hm).imp fun _ _ _ h => by
    have q := h.tst
    exact q.neB
theorem de_binB {op : Operator} (d : MdD X.prog X.w X.K X.mg X.base TT k C (PySem.dunder op.info.2) sp) (hc : PySem.W.selfFirst X.K C = true) (T : BinT X.K C op.info.2) (hr : Room j X.A) (hk : k ≤ j) (hx : Passes (L2.CX X.prog X.w) X E) (ha : PE X a (LE X.K TT E fa)) (hb : PE X b (LE X.K TT E fb)) : PE X (.BinOp a op b pos) (LE X.K TT E (dOpB C sp fa fb)) := by
  obtain ⟨f, F, M⟩ := d.ex
  exact (pe_op (op_binB M hc T F (hr.mono hk) hx) ha hb).imp fun _ _ _ h => h.cmpB
end
end Aim

namespace Aim
open PySem PySem.Spec PyProof.Rows L2 RZ
open LamX (TabB)
section
variable {P : Program} {w : World} {K : PySem.W.Frag} {mg : Str → Option Value} {base : Heap} {TT : List (Addr × Str)}
/-! ### persons by their numbers -/
structure Rw where
  f : Int
  s : Option Int
  h : Int
  a : Int
def slowD : Option Int → Dat
  | none => .non
  | some i => .int i
structure Rw.Ok (r : Rw) : Prop where
  f : 0 ≤ r.f ∧ r.f ≤ 6
  s : ∀ i, r.s = some i → r.f ≤ i ∧ i ≤ 6
  h : 0 ≤ r.h ∧ r.h ≤ 6
  a : 1 ≤ r.a ∧ r.a ≤ 2
def perF : List Str := ["own_fast", "own_slow", "own_hold", "own_ahead"]
def perD (C : Addr) (r : Rw) : Dat := .obj C perF [.int r.f, slowD r.s, .int r.h, .int r.a]
structure ErrP8 (P : Program) (K : PySem.W.Frag) (mg : Str → Option Value) (stI : Stmt) (fI AE CT CA : Addr) : Prop where
  ini : AimI P K stI fI AE
  c_BadTicks : AimC K fI AE CT
  m_BadTicks : mg "BadTicks" = some (.ref CT)
  c_BadAhead : AimC K fI AE CA
  m_BadAhead : mg "BadAhead" = some (.ref CA)
structure CstT (K : PySem.W.Frag) (mg : Str → Option Value) : Prop where
  g_MOST_TICKS : GC K mg "MOST_TICKS" (.int 6)
  g_MOST_AHEAD : GC K mg "MOST_AHEAD" (.int 2)
structure ClsPerson (K : PySem.W.Frag) (mg : Str → Option Value) (C : Addr) : Prop where
  cl : Cls K C
  mg : mg "Person" = some (.ref C)
  n_own_fast : NoAttr K C "own_fast"
  n_own_slow : NoAttr K C "own_slow"
  n_own_hold : NoAttr K C "own_hold"
  n_own_ahead : NoAttr K C "own_ahead"
  p_fast : Prp K C "fast" "own_fast" "Person.fast" (inClass (top 18) 1)
  p_slow : Prp K C "slow" "own_slow" "Person.slow" (inClass (top 18) 2)
  p_hold : Prp K C "hold" "own_hold" "Person.hold" (inClass (top 18) 3)
  p_ahead : Prp K C "ahead" "own_ahead" "Person.ahead" (inClass (top 18) 4)
theorem sc_Person_fast : FnScope ["self"] ["self"] (defScope (inClass (top 18) 1)) := ⟨rfl, rfl, rfl, by decide +kernel, rfl, by decide +kernel, by decide +kernel⟩
theorem sc_Person_slow : FnScope ["self"] ["self"] (defScope (inClass (top 18) 2)) := ⟨rfl, rfl, rfl, by decide +kernel, rfl, by decide +kernel, by decide +kernel⟩
theorem sc_Person_hold : FnScope ["self"] ["self"] (defScope (inClass (top 18) 3)) := ⟨rfl, rfl, rfl, by decide +kernel, rfl, by decide +kernel, by decide +kernel⟩
theorem sc_Person_ahead : FnScope ["self"] ["self"] (defScope (inClass (top 18) 4)) := ⟨rfl, rfl, rfl, by decide +kernel, rfl, by decide +kernel, by decide +kernel⟩

theorem isFrom_in {i lo hi : Int} (h : lo ≤ i ∧ i ≤ hi) : isFrom (.int i) lo hi = true := by
  show (decide (lo ≤ i) && decide (i ≤ hi)) = true
  rw [decide_eq_true h.1, decide_eq_true h.2]
  rfl
section
variable {stI : Stmt} {fI AE C C_BadTicks C_BadAhead : Addr} {kds : List (Str × V)}
def spPersonD (C : Addr) : DSp := fun ds n Q _ => ∃ r : Rw, ds = [.int r.f, slowD r.s, .int r.h, .int r.a] ∧ r.Ok ∧ Q (perD C r) n
theorem sc_Person___init__ : FnScope ["self", "fast", "slow", "hold", "ahead"] ["self", "fast", "slow", "hold", "ahead"] (defScope (inClass (top 18) 0)) := ⟨rfl, rfl, rfl, by decide +kernel, rfl, by decide +kernel, by decide +kernel⟩
theorem ok_personD (MK : MkHK K C "Person.__init__" (inClass (top 18) 0) kds) (V_Person : ClsPerson K mg C) (Z : ErrP8 P K mg stI fI AE C_BadTicks C_BadAhead) (Y : CstT K mg) (T : Blt mg) (D_is_from : Df P w K mg base false 2 "is_from" (LSp K TT spIsFrom)) : MadeP P w K mg base TT 3 C "Person.__init__" (inClass (top 18) 0) kds ["self", "fast", "slow", "hold", "ahead"] (spPersonD C) := by
  refine inip_ok MK sc_Person___init__ (by decide) (fun f cdv A outer s H E hr => ⟨_, (dss_cons (ds_if (dt_not (dt_val (de_call D_is_from hr (by first | decide | omega) (by first | exact hG | (intro z; cases z)) rfl (passes_call (takes_of rfl rfl rfl rfl) (fun _ _ _ _ h => h)) (da_cons (de_var (pv 1)) (da_cons de_int (da_cons (de_g rfl Y.g_MOST_TICKS) da_nil)))))) (dss_one (ds_raise (ps_raise rfl (takes_of rfl rfl rfl rfl) (pmk_aim Z.ini Z.c_BadTicks T.n_super (hr.mono (by decide)) rfl Z.m_BadTicks (de_var (pv 1)))))) dss_nil)
      (dss_cons (ds_if (PW.pt (dw_and (dt_notN (de_var (pv 2))) (dw_and1 (dt_not (dt_val (de_call D_is_from hr (by first | decide | omega) (by first | exact hG | (intro z; cases z)) rfl (passes_call (takes_of rfl rfl rfl rfl) (fun _ _ _ _ h => h)) (da_cons (de_var (pv 2)) (da_cons (de_var (pv 1)) (da_cons (de_g rfl Y.g_MOST_TICKS) da_nil))))))))) (dss_one (ds_raise (ps_raise rfl (takes_of rfl rfl rfl rfl) (pmk_aim Z.ini Z.c_BadTicks T.n_super (hr.mono (by decide)) rfl Z.m_BadTicks (de_var (pv 2)))))) dss_nil)
      (dss_cons (ds_if (dt_not (dt_val (de_call D_is_from hr (by first | decide | omega) (by first | exact hG | (intro z; cases z)) rfl (passes_call (takes_of rfl rfl rfl rfl) (fun _ _ _ _ h => h)) (da_cons (de_var (pv 3)) (da_cons de_int (da_cons (de_g rfl Y.g_MOST_TICKS) da_nil)))))) (dss_one (ds_raise (ps_raise rfl (takes_of rfl rfl rfl rfl) (pmk_aim Z.ini Z.c_BadTicks T.n_super (hr.mono (by decide)) rfl Z.m_BadTicks (de_var (pv 3)))))) dss_nil)
      (dss_cons (ds_if (dt_not (dt_val (de_call D_is_from hr (by first | decide | omega) (by first | exact hG | (intro z; cases z)) rfl (passes_call (takes_of rfl rfl rfl rfl) (fun _ _ _ _ h => h)) (da_cons (de_var (pv 4)) (da_cons de_int (da_cons (de_g rfl Y.g_MOST_AHEAD) da_nil)))))) (dss_one (ds_raise (ps_raise rfl (takes_of rfl rfl rfl rfl) (pmk_aim Z.ini Z.c_BadAhead T.n_super (hr.mono (by decide)) rfl Z.m_BadAhead (de_var (pv 4)))))) dss_nil)
      (dss_cons (ds_self V_Person.cl V_Person.n_own_fast (pv 0) (de_var (pv 1)) rfl)
      (dss_cons (ds_self V_Person.cl V_Person.n_own_slow (pv 0) (de_var (pv 2)) rfl)
      (dss_cons (ds_self V_Person.cl V_Person.n_own_hold (pv 0) (de_var (pv 3)) rfl)
      (dss_one (ds_self V_Person.cl V_Person.n_own_ahead (pv 0) (de_var (pv 4)) rfl))))))))), fun x ds n PP R h => ?_⟩) (fun ds n PP R h => ?_)
  · obtain ⟨r, rfl, ok, k⟩ := h
    have no1 : ∀ (ks : List Str) (ds : List Dat), oneIns [.ins x C ks ds, .val (.int r.f), .val (slowD r.s), .val (.int r.h), .val (.int r.a)] 0 := fun ks ds j a C' ks' ds' hj => by
      match j, hj with
      | 0, hj => exact absurd rfl hj
      | 1, _ => simp
      | 2, _ => simp
      | 3, _ => simp
      | 4, _ => simp
      | j + 5, _ => simp
    refine ⟨.int r.f, 0, 6, rfl, rfl, ?_⟩
    rw [isFrom_in ok.f]
    have last : dSeq (dIfS (dNotT (dTst (dCall spIsFrom (dCons (dVar 3) (dCons (dC (Dat.int 0)) (dCons (dC (Dat.int 6)) dNil)))))) (dRaise C_BadTicks (dVar 3)) dEnd)
        (dSeq (dIfS (dNotT (dTst (dCall spIsFrom (dCons (dVar 4) (dCons (dC (Dat.int 1)) (dCons (dC (Dat.int 2)) dNil)))))) (dRaise C_BadAhead (dVar 4)) dEnd)
          (dSeq (dSelf 0 C "own_fast" (dVar 1)) (dSeq (dSelf 0 C "own_slow" (dVar 2)) (dSeq (dSelf 0 C "own_hold" (dVar 3)) (dSelf 0 C "own_ahead" (dVar 4))))))
        { nx := fun ρ' m => insOf (slAt ρ' 0) fun a C' ks es => a = x ∧ C' = C ∧ PP (Dat.obj C ks es) m, rt := fun _ _ => False, ex := R } [.ins x C [] [], .val (.int r.f), .val (slowD r.s), .val (.int r.h), .val (.int r.a)] n := by
      refine ⟨.int r.h, 0, 6, rfl, rfl, ?_⟩
      rw [isFrom_in ok.h]
      refine ⟨.int r.a, 1, 2, rfl, rfl, ?_⟩
      rw [isFrom_in ok.a]
      refine ⟨rfl, by simp, by decide, no1 _ _, ?_⟩
      refine ⟨rfl, by decide, by decide, no1 _ _, ?_⟩
      refine ⟨rfl, by decide, by decide, no1 _ _, ?_⟩
      refine ⟨rfl, by decide, by decide, no1 _ _, ?_⟩
      exact ⟨rfl, rfl, k⟩
    cases e : r.s with
    | none =>
      rw [e] at last
      exact last
    | some i =>
      rw [e] at last
      refine ⟨.int i, r.f, 6, rfl, rfl, ?_⟩
      rw [isFrom_in (ok.s i e)]
      exact last
  · obtain ⟨r, rfl, _⟩ := h
    rfl
/-! ### lesser, greater, limits -/
def lessI (i j : Int) : Int := if i < j then i else j
def moreI (i j : Int) : Int := if i > j then i else j
def limI : Option Int → Int
  | none => 7
  | some i => i
def slowI (i : Int) : Option Int := if i = 7 then none else some i
structure CstE (K : PySem.W.Frag) (mg : Str → Option Value) : Prop where
  g_ENDLESS : GC K mg "ENDLESS" (.int 7)
def spLess : DSp := fun ds n Q _ => ∃ i j, ds = [.int i, .int j] ∧ Q (.int (lessI i j)) n
def spMore : DSp := fun ds n Q _ => ∃ i j, ds = [.int i, .int j] ∧ Q (.int (moreI i j)) n
def spLim : DSp := fun ds n Q _ => ∃ s, ds = [slowD s] ∧ Q (.int (limI s)) n
def spSlow : DSp := fun ds n Q _ => ∃ i, ds = [.int i] ∧ Q (slowD (slowI i)) n
theorem sc_lesser : FnScope ["one", "other"] ["one", "other"] (defScope (top 12)) := ⟨rfl, rfl, rfl, by decide +kernel, rfl, by decide +kernel, by decide +kernel⟩
theorem ok_lesser {G : Bool} (F : Has K mg "lesser" (top 12)) (T : Blt mg) : Df P w K mg base G 1 "lesser" (LSp K TT spLess) := by
  refine dat_ok F (fun f fd F => F.binds (fun _ _ _ _ _ _ us hl => match us, hl with | [_, _], _ => rfl)) sc_lesser (fun f cdv A outer s H E hr hG => ⟨_, (dss_one (ds_ret (de_if (dt_cmp op_lt (od_IB _) (de_var (pv 0)) (de_var (pv 1)) (nomark _)) (de_var (pv 0)) (de_var (pv 1))))), fun ds n PP R h => ?_⟩) (fun ds n PP R h => ?_)
  · obtain ⟨i, j, rfl, k⟩ := h
    refine ⟨rfl, ?_⟩
    unfold lessI at k
    refine ite2 (fun c => ?_) (fun c => ?_)
    · rw [if_pos (of_decide_eq_true c)] at k
      exact k
    · rw [if_neg (fun z => c (decide_eq_true z))] at k
      exact k
  · obtain ⟨i, j, rfl, _⟩ := h
    rfl
theorem sc_greater : FnScope ["one", "other"] ["one", "other"] (defScope (top 13)) := ⟨rfl, rfl, rfl, by decide +kernel, rfl, by decide +kernel, by decide +kernel⟩
theorem ok_greater {G : Bool} (F : Has K mg "greater" (top 13)) (T : Blt mg) : Df P w K mg base G 1 "greater" (LSp K TT spMore) := by
  refine dat_ok F (fun f fd F => F.binds (fun _ _ _ _ _ _ us hl => match us, hl with | [_, _], _ => rfl)) sc_greater (fun f cdv A outer s H E hr hG => ⟨_, (dss_one (ds_ret (de_if (dt_cmp op_gt (od_IB _) (de_var (pv 0)) (de_var (pv 1)) (nomark _)) (de_var (pv 0)) (de_var (pv 1))))), fun ds n PP R h => ?_⟩) (fun ds n PP R h => ?_)
  · obtain ⟨i, j, rfl, k⟩ := h
    refine ⟨rfl, ?_⟩
    unfold moreI at k
    refine ite2 (fun c => ?_) (fun c => ?_)
    · rw [if_pos (of_decide_eq_true c)] at k
      exact k
    · rw [if_neg (fun z => c (decide_eq_true z))] at k
      exact k
  · obtain ⟨i, j, rfl, _⟩ := h
    rfl
theorem sc_limit_of : FnScope ["slow"] ["slow"] (defScope (top 14)) := ⟨rfl, rfl, rfl, by decide +kernel, rfl, by decide +kernel, by decide +kernel⟩
theorem ok_limit_of {G : Bool} (F : Has K mg "limit_of" (top 14)) (T : Blt mg) (Y : CstE K mg) : Df P w K mg base G 1 "limit_of" (LSp K TT spLim) := by
  refine dat_ok F (fun f fd F => F.binds (fun _ _ _ _ _ _ us hl => match us, hl with | [_], _ => rfl)) sc_limit_of (fun f cdv A outer s H E hr hG => ⟨_, (dss_one (ds_ret (de_if (dt_isN (de_var (pv 0))) (de_g rfl Y.g_ENDLESS) (de_var (pv 0))))), fun ds n PP R h => ?_⟩) (fun ds n PP R h => ?_)
  · obtain ⟨s, rfl, k⟩ := h
    refine ⟨rfl, ?_⟩
    cases s with
    | none => exact k
    | some i => exact k
  · obtain ⟨s, rfl, _⟩ := h
    rfl
theorem sc_slow_of : FnScope ["limit"] ["limit"] (defScope (top 15)) := ⟨rfl, rfl, rfl, by decide +kernel, rfl, by decide +kernel, by decide +kernel⟩
theorem ok_slow_of {G : Bool} (F : Has K mg "slow_of" (top 15)) (T : Blt mg) (Y : CstE K mg) : Df P w K mg base G 1 "slow_of" (LSp K TT spSlow) := by
  refine dat_ok F (fun f fd F => F.binds (fun _ _ _ _ _ _ us hl => match us, hl with | [_], _ => rfl)) sc_slow_of (fun f cdv A outer s H E hr hG => ⟨_, (dss_one (ds_ret (de_if (dt_cmp (op_eqDD hr.units) od_eq (de_var (pv 0)) (de_g rfl Y.g_ENDLESS) (nomark _)) de_non (de_var (pv 0))))), fun ds n PP R h => ?_⟩) (fun ds n PP R h => ?_)
  · obtain ⟨i, rfl, k⟩ := h
    refine ⟨rfl, ?_⟩
    refine ⟨⟨cmp_fl rfl, cmp_fl rfl⟩, ?_⟩
    unfold slowI at k
    refine ite2 (fun c => ?_) (fun c => ?_)
    · rw [if_pos (show i = 7 from beq_iff_eq.mp c)] at k
      exact k
    · rw [if_neg (fun z : i = 7 => c (beq_iff_eq.mpr z))] at k
      exact k
  · obtain ⟨i, rfl, _⟩ := h
    rfl
/-! ### within -/
def wiR (x y : Rw) : Bool := !(decide (x.f < y.f) || decide (limI y.s < limI x.s)) && (decide (x.h ≤ y.h) && decide (x.a ≤ y.a))
def spWi (C : Addr) : DSp := fun ds n Q _ => ∃ x y, ds = [perD C x, perD C y] ∧ Q (.bl (wiR x y)) n
theorem sc_is_within : FnScope ["one", "other"] ["one", "other"] (defScope (top 16)) := ⟨rfl, rfl, rfl, by decide +kernel, rfl, by decide +kernel, by decide +kernel⟩
theorem ok_is_within {G : Bool} (F : Has K mg "is_within" (top 16)) (T : Blt mg) (V_Person : ClsPerson K mg C) (D_limit_of : Df P w K mg base false 1 "limit_of" (LSp K TT spLim)) : Df P w K mg base G 2 "is_within" (LSp K TT (spWi C)) := by
  refine dat_ok F (fun f fd F => F.binds (fun _ _ _ _ _ _ us hl => match us, hl with | [_, _], _ => rfl)) sc_is_within (fun f cdv A outer s H E hr hG => ⟨_, (dss_cons (ds_if (PW.pt (dw_or (dt_cmp op_gt (od_IB _) (de_fld V_Person.cl V_Person.n_own_fast (de_var (pv 1)) rfl) (de_fld V_Person.cl V_Person.n_own_fast (de_var (pv 0)) rfl) (nomark _)) (dw_or1 (dt_cmp op_gt (od_IB _) (de_call D_limit_of hr (by first | decide | omega) (by first | exact hG | (intro z; cases z)) rfl passL (da_cons (de_fld V_Person.cl V_Person.n_own_slow (de_var (pv 0)) rfl) da_nil)) (de_call D_limit_of hr (by first | decide | omega) (by first | exact hG | (intro z; cases z)) rfl passL (da_cons (de_fld V_Person.cl V_Person.n_own_slow (de_var (pv 1)) rfl) da_nil)) (nomark _))))) (dss_one (ds_ret de_bl)) dss_nil)
      (dss_one (ds_ret (de_and (de_cmp op_le (od_IB _) (de_fld V_Person.cl V_Person.n_own_hold (de_var (pv 0)) rfl) (de_fld V_Person.cl V_Person.n_own_hold (de_var (pv 1)) rfl) (nomark _)) (de_one (de_cmp op_le (od_IB _) (de_fld V_Person.cl V_Person.n_own_ahead (de_var (pv 0)) rfl) (de_fld V_Person.cl V_Person.n_own_ahead (de_var (pv 1)) rfl) (nomark _))))))), fun ds n PP R h => ?_⟩) (fun ds n PP R h => ?_)
  · obtain ⟨x, y, rfl, k⟩ := h
    refine ⟨rfl, ?_⟩
    unfold wiR at k
    refine ⟨rfl, rfl, ?_⟩
    refine ite2 (fun c1 => ?_) (fun c1 => ?_)
    · rw [c1] at k
      exact k
    rw [Bool.eq_false_iff.mpr c1] at k
    refine ⟨rfl, x.s, rfl, rfl, y.s, rfl, ?_⟩
    refine ite2 (fun c2 => ?_) (fun c2 => ?_)
    · rw [c2] at k
      exact k
    rw [Bool.eq_false_iff.mpr c2] at k
    refine ⟨rfl, rfl, ?_⟩
    refine ite2 (fun c3 => ?_) (fun c3 => ?_)
    · rw [c3] at k
      exact ⟨rfl, rfl, k⟩
    · rw [Bool.eq_false_iff.mpr c3] at k
      exact k
  · obtain ⟨x, y, rfl, _⟩ := h
    rfl
def spCmpP (C : Addr) (g : Rw → Rw → Bool) : DSp := fun ds n Q _ => ∃ x y, ds = [perD C x, perD C y] ∧ Q (.bl (g x y)) n
theorem sc_Person___le__ : FnScope ["self", "other"] ["self", "other"] (defScope (inClass (top 18) 6)) := ⟨rfl, rfl, rfl, by decide +kernel, rfl, by decide +kernel, by decide +kernel⟩
theorem ok_per__le__ (MD : MdH K C "__le__" "Person.__le__" (inClass (top 18) 6)) (V_Person : ClsPerson K mg C) (T : Blt mg) (D_is_within : Df P w K mg base false 2 "is_within" (LSp K TT (spWi C))) : MdD P w K mg base TT 3 C "__le__" (spCmpP C fun x y => wiR x y) := by
  refine dat_okM MD (fun _ _ _ _ _ _ us hl => match us, hl with | [_, _], _ => rfl) sc_Person___le__ (fun f cdv A outer s H E hr => ⟨_, (dss_one (ds_ret (de_call D_is_within hr (by first | decide | omega) (by first | exact hG | (intro z; cases z)) rfl passL (da_cons (de_var (pv 0)) (da_cons (de_var (pv 1)) da_nil))))), fun ds n PP R h => ?_⟩) (fun ds n PP R h => ?_)
  · obtain ⟨x, y, rfl, k⟩ := h
    refine ⟨rfl, ?_⟩
    exact ⟨x, y, rfl, k⟩
  · obtain ⟨x, y, rfl, _⟩ := h
    rfl
theorem sc_Person___ge__ : FnScope ["self", "other"] ["self", "other"] (defScope (inClass (top 18) 8)) := ⟨rfl, rfl, rfl, by decide +kernel, rfl, by decide +kernel, by decide +kernel⟩
theorem ok_per__ge__ (MD : MdH K C "__ge__" "Person.__ge__" (inClass (top 18) 8)) (V_Person : ClsPerson K mg C) (T : Blt mg) (D_is_within : Df P w K mg base false 2 "is_within" (LSp K TT (spWi C))) : MdD P w K mg base TT 3 C "__ge__" (spCmpP C fun x y => wiR y x) := by
  refine dat_okM MD (fun _ _ _ _ _ _ us hl => match us, hl with | [_, _], _ => rfl) sc_Person___ge__ (fun f cdv A outer s H E hr => ⟨_, (dss_one (ds_ret (de_call D_is_within hr (by first | decide | omega) (by first | exact hG | (intro z; cases z)) rfl passL (da_cons (de_var (pv 1)) (da_cons (de_var (pv 0)) da_nil))))), fun ds n PP R h => ?_⟩) (fun ds n PP R h => ?_)
  · obtain ⟨x, y, rfl, k⟩ := h
    refine ⟨rfl, ?_⟩
    exact ⟨y, x, rfl, k⟩
  · obtain ⟨x, y, rfl, _⟩ := h
    rfl
theorem sc_Person___lt__ : FnScope ["self", "other"] ["self", "other"] (defScope (inClass (top 18) 7)) := ⟨rfl, rfl, rfl, by decide +kernel, rfl, by decide +kernel, by decide +kernel⟩
theorem ok_per__lt__ (MD : MdH K C "__lt__" "Person.__lt__" (inClass (top 18) 7)) (V_Person : ClsPerson K mg C) (T : Blt mg) (D_is_within : Df P w K mg base false 2 "is_within" (LSp K TT (spWi C))) : MdD P w K mg base TT 3 C "__lt__" (spCmpP C fun x y => wiR x y && !wiR y x) := by
  refine dat_okM MD (fun _ _ _ _ _ _ us hl => match us, hl with | [_, _], _ => rfl) sc_Person___lt__ (fun f cdv A outer s H E hr => ⟨_, (dss_one (ds_ret (de_and (de_call D_is_within hr (by first | decide | omega) (by first | exact hG | (intro z; cases z)) rfl passL (da_cons (de_var (pv 0)) (da_cons (de_var (pv 1)) da_nil))) (de_one (de_not (de_call D_is_within hr (by first | decide | omega) (by first | exact hG | (intro z; cases z)) rfl passL (da_cons (de_var (pv 1)) (da_cons (de_var (pv 0)) da_nil)))))))), fun ds n PP R h => ?_⟩) (fun ds n PP R h => ?_)
  · obtain ⟨x, y, rfl, k⟩ := h
    refine ⟨rfl, ?_⟩
    have k : PP (.bl (wiR x y && !wiR y x)) n := k
    refine ⟨x, y, rfl, ?_⟩
    refine ite2 (fun c => ?_) (fun c => ?_)
    · replace c : wiR x y = true := c
      rw [c] at k
      exact ⟨y, x, rfl, k⟩
    · replace c : ¬ wiR x y = true := c
      rw [Bool.eq_false_iff.mpr c] at k
      exact k
  · obtain ⟨x, y, rfl, _⟩ := h
    rfl
theorem sc_Person___gt__ : FnScope ["self", "other"] ["self", "other"] (defScope (inClass (top 18) 9)) := ⟨rfl, rfl, rfl, by decide +kernel, rfl, by decide +kernel, by decide +kernel⟩
theorem ok_per__gt__ (MD : MdH K C "__gt__" "Person.__gt__" (inClass (top 18) 9)) (V_Person : ClsPerson K mg C) (T : Blt mg) (D_is_within : Df P w K mg base false 2 "is_within" (LSp K TT (spWi C))) : MdD P w K mg base TT 3 C "__gt__" (spCmpP C fun x y => wiR y x && !wiR x y) := by
  refine dat_okM MD (fun _ _ _ _ _ _ us hl => match us, hl with | [_, _], _ => rfl) sc_Person___gt__ (fun f cdv A outer s H E hr => ⟨_, (dss_one (ds_ret (de_and (de_call D_is_within hr (by first | decide | omega) (by first | exact hG | (intro z; cases z)) rfl passL (da_cons (de_var (pv 1)) (da_cons (de_var (pv 0)) da_nil))) (de_one (de_not (de_call D_is_within hr (by first | decide | omega) (by first | exact hG | (intro z; cases z)) rfl passL (da_cons (de_var (pv 0)) (da_cons (de_var (pv 1)) da_nil)))))))), fun ds n PP R h => ?_⟩) (fun ds n PP R h => ?_)
  · obtain ⟨x, y, rfl, k⟩ := h
    refine ⟨rfl, ?_⟩
    have k : PP (.bl (wiR y x && !wiR x y)) n := k
    refine ⟨y, x, rfl, ?_⟩
    refine ite2 (fun c => ?_) (fun c => ?_)
    · replace c : wiR y x = true := c
      rw [c] at k
      exact ⟨x, y, rfl, k⟩
    · replace c : ¬ wiR y x = true := c
      rw [Bool.eq_false_iff.mpr c] at k
      exact k
  · obtain ⟨x, y, rfl, _⟩ := h
    rfl
/-! ### put together -/
def orR (x y : Rw) : Rw := ⟨lessI x.f y.f, slowI (moreI (limI x.s) (limI y.s)), moreI x.h y.h, moreI x.a y.a⟩
def andR (x y : Rw) : Rw := ⟨moreI x.f y.f, slowI (lessI (limI x.s) (limI y.s)), lessI x.h y.h, lessI x.a y.a⟩
def noR (x y : Rw) : Bool := decide (lessI (limI x.s) (limI y.s) < moreI x.f y.f)
theorem limI_in {r : Rw} (h : r.Ok) : r.f ≤ limI r.s ∧ limI r.s ≤ 7 := by
  have hf := h.f
  cases e : r.s with
  | none => exact ⟨by show r.f ≤ 7; omega, by show (7 : Int) ≤ 7; omega⟩
  | some i =>
    have := h.s i e
    exact ⟨this.1, by show i ≤ 7; omega⟩
theorem slowI_some {i j : Int} (h : slowI i = some j) : j = i ∧ i ≠ 7 := by
  unfold slowI at h
  split at h
  · cases h
  · rename_i c
    exact ⟨(Option.some.inj h).symm, c⟩
theorem orR_ok {x y : Rw} (hx : x.Ok) (hy : y.Ok) : (orR x y).Ok := by
  have x1 := limI_in hx
  have y1 := limI_in hy
  have a1 := hx.f
  have a2 := hx.h
  have a3 := hx.a
  have b1 := hy.f
  have b2 := hy.h
  have b3 := hy.a
  refine ⟨?_, fun j hj => ?_, ?_, ?_⟩
  · show 0 ≤ lessI x.f y.f ∧ lessI x.f y.f ≤ 6
    unfold lessI
    split <;> omega
  · obtain ⟨rfl, ne⟩ := slowI_some hj
    show lessI x.f y.f ≤ _ ∧ _
    unfold lessI moreI at *
    split <;> split <;> rename_i c1 c2 <;> (try rw [if_pos c2] at ne) <;> (try rw [if_neg c2] at ne) <;> omega
  · show 0 ≤ moreI x.h y.h ∧ moreI x.h y.h ≤ 6
    unfold moreI
    split <;> omega
  · show 1 ≤ moreI x.a y.a ∧ moreI x.a y.a ≤ 2
    unfold moreI
    split <;> omega
theorem andR_ok {x y : Rw} (hx : x.Ok) (hy : y.Ok) (h : noR x y = false) : (andR x y).Ok := by
  have x1 := limI_in hx
  have y1 := limI_in hy
  have a1 := hx.f
  have a2 := hx.h
  have a3 := hx.a
  have b1 := hy.f
  have b2 := hy.h
  have b3 := hy.a
  have h : ¬ lessI (limI x.s) (limI y.s) < moreI x.f y.f := of_decide_eq_false h
  refine ⟨?_, fun j hj => ?_, ?_, ?_⟩
  · show 0 ≤ moreI x.f y.f ∧ moreI x.f y.f ≤ 6
    unfold moreI
    split <;> omega
  · obtain ⟨rfl, ne⟩ := slowI_some hj
    show moreI x.f y.f ≤ _ ∧ _
    have l : lessI (limI x.s) (limI y.s) ≤ 7 := by
      unfold lessI
      split <;> omega
    omega
  · show 0 ≤ lessI x.h y.h ∧ lessI x.h y.h ≤ 6
    unfold lessI
    split <;> omega
  · show 1 ≤ lessI x.a y.a ∧ lessI x.a y.a ≤ 2
    unfold lessI
    split <;> omega
def spOrP (C : Addr) : DSp := fun ds n Q _ => ∃ x y, ds = [perD C x, perD C y] ∧ x.Ok ∧ y.Ok ∧ Q (perD C (orR x y)) n
theorem sc_Person___or__ : FnScope ["self", "other", "slow", "hold", "ahead"] ["self", "other"] (defScope (inClass (top 18) 10)) := ⟨rfl, rfl, rfl, by decide +kernel, rfl, by decide +kernel, by decide +kernel⟩
theorem ok_perOr (MD : MdH K C "__or__" "Person.__or__" (inClass (top 18) 10)) (V_Person : ClsPerson K mg C) (T : Blt mg) (MP_Person : DfK' P w K mg base TT 3 C 2 ["hold", "ahead"] (fun ds es => ds ++ es) (spPersonD C)) (D_lesser : Df P w K mg base false 1 "lesser" (LSp K TT spLess)) (D_greater : Df P w K mg base false 1 "greater" (LSp K TT spMore)) (D_limit_of : Df P w K mg base false 1 "limit_of" (LSp K TT spLim)) (D_slow_of : Df P w K mg base false 1 "slow_of" (LSp K TT spSlow)) : MdD P w K mg base TT 5 C "__or__" (spOrP C) := by
  refine dat_okM MD (fun _ _ _ _ _ _ us hl => match us, hl with | [_, _], _ => rfl) sc_Person___or__ (fun f cdv A outer s H E hr => ⟨_, (dss_cons (ds_set (i := 2) sc_Person___or__.nd rfl (Or.inl rfl) (de_call D_slow_of hr (by first | decide | omega) (by first | exact hG | (intro z; cases z)) rfl passL (da_cons (de_call D_greater hr (by first | decide | omega) (by first | exact hG | (intro z; cases z)) rfl passL (da_cons (de_call D_limit_of hr (by first | decide | omega) (by first | exact hG | (intro z; cases z)) rfl passL (da_cons (de_fld V_Person.cl V_Person.n_own_slow (de_var (pv 0)) rfl) da_nil)) (da_cons (de_call D_limit_of hr (by first | decide | omega) (by first | exact hG | (intro z; cases z)) rfl passL (da_cons (de_fld V_Person.cl V_Person.n_own_slow (de_var (pv 1)) rfl) da_nil)) da_nil))) da_nil)))
      (dss_cons (ds_par (ps_par (i := 3) (j := 4) rfl sc_Person___or__.nd rfl rfl (by decide) rfl rfl (da_cons (de_call D_greater hr (by first | decide | omega) (by first | exact hG | (intro z; cases z)) rfl passL (da_cons (de_fld V_Person.cl V_Person.n_own_hold (de_var (pv 0)) rfl) (da_cons (de_fld V_Person.cl V_Person.n_own_hold (de_var (pv 1)) rfl) da_nil))) (da_cons (de_call D_greater hr (by first | decide | omega) (by first | exact hG | (intro z; cases z)) rfl passL (da_cons (de_fld V_Person.cl V_Person.n_own_ahead (de_var (pv 0)) rfl) (da_cons (de_fld V_Person.cl V_Person.n_own_ahead (de_var (pv 1)) rfl) da_nil))) da_nil)) (by rfl)))
      (dss_one (ds_ret (de_makeP MP_Person hr (by first | decide | omega) rfl V_Person.mg passL (da_cons (de_call D_lesser hr (by first | decide | omega) (by first | exact hG | (intro z; cases z)) rfl passL (da_cons (de_fld V_Person.cl V_Person.n_own_fast (de_var (pv 0)) rfl) (da_cons (de_fld V_Person.cl V_Person.n_own_fast (de_var (pv 1)) rfl) da_nil))) (da_cons (de_var (pv 2)) da_nil)) (dk_cons (de_var (pv 3)) (dk_cons (de_var (pv 4)) dk_nil))))))), fun ds n PP R h => ?_⟩) (fun ds n PP R h => ?_)
  · obtain ⟨x, y, rfl, hx, hy, k⟩ := h
    refine ⟨rfl, ?_⟩
    refine ⟨rfl, x.s, rfl, rfl, y.s, rfl, limI x.s, limI y.s, rfl, moreI (limI x.s) (limI y.s), rfl, ?_⟩
    refine ⟨rfl, rfl, x.h, y.h, rfl, rfl, rfl, x.a, y.a, rfl, ?_⟩
    refine ⟨rfl, rfl, x.f, y.f, rfl, ⟨rfl, rfl⟩, orR x y, rfl, orR_ok hx hy, k⟩
  · obtain ⟨x, y, rfl, _⟩ := h
    rfl
structure ErrNo (P : Program) (K : PySem.W.Frag) (mg : Str → Option Value) (stI : Stmt) (fI AE CN : Addr) : Prop where
  ini : AimI P K stI fI AE
  c_Nobody : AimC K fI AE CN
  m_Nobody : mg "Nobody" = some (.ref CN)
def spAndP (C CN : Addr) : DSp := fun ds n Q R => ∃ x y, ds = [perD C x, perD C y] ∧ x.Ok ∧ y.Ok ∧ (noR x y = true → R CN (perD C y) n) ∧ (noR x y = false → Q (perD C (andR x y)) n)
theorem sc_Person___and__ : FnScope ["self", "other", "fast", "limit", "hold", "ahead"] ["self", "other"] (defScope (inClass (top 18) 11)) := ⟨rfl, rfl, rfl, by decide +kernel, rfl, by decide +kernel, by decide +kernel⟩
theorem ok_perAnd {C_Nobody : Addr} (MD : MdH K C "__and__" "Person.__and__" (inClass (top 18) 11)) (V_Person : ClsPerson K mg C) (Z : ErrNo P K mg stI fI AE C_Nobody) (T : Blt mg) (MP_Person : DfK' P w K mg base TT 3 C 2 ["hold", "ahead"] (fun ds es => ds ++ es) (spPersonD C)) (D_lesser : Df P w K mg base false 1 "lesser" (LSp K TT spLess)) (D_greater : Df P w K mg base false 1 "greater" (LSp K TT spMore)) (D_limit_of : Df P w K mg base false 1 "limit_of" (LSp K TT spLim)) (D_slow_of : Df P w K mg base false 1 "slow_of" (LSp K TT spSlow)) : MdD P w K mg base TT 5 C "__and__" (spAndP C C_Nobody) := by
  refine dat_okMX MD (fun _ _ _ _ _ _ us hl => match us, hl with | [_, _], _ => rfl) sc_Person___and__ (fun f cdv A outer s H E hr => ⟨_, (dss_cons (ds_par (ps_par (i := 2) (j := 3) rfl sc_Person___and__.nd rfl rfl (by decide) rfl rfl (da_cons (de_call D_greater hr (by first | decide | omega) (by first | exact hG | (intro z; cases z)) rfl (passes_call (takes_of rfl rfl rfl rfl) (fun _ _ _ _ h => h)) (da_cons (de_fld V_Person.cl V_Person.n_own_fast (de_var (pv 0)) rfl) (da_cons (de_fld V_Person.cl V_Person.n_own_fast (de_var (pv 1)) rfl) da_nil))) (da_cons (de_call D_lesser hr (by first | decide | omega) (by first | exact hG | (intro z; cases z)) rfl (passes_call (takes_of rfl rfl rfl rfl) (fun _ _ _ _ h => h)) (da_cons (de_call D_limit_of hr (by first | decide | omega) (by first | exact hG | (intro z; cases z)) rfl (passes_call (takes_of rfl rfl rfl rfl) (fun _ _ _ _ h => h)) (da_cons (de_fld V_Person.cl V_Person.n_own_slow (de_var (pv 0)) rfl) da_nil)) (da_cons (de_call D_limit_of hr (by first | decide | omega) (by first | exact hG | (intro z; cases z)) rfl (passes_call (takes_of rfl rfl rfl rfl) (fun _ _ _ _ h => h)) (da_cons (de_fld V_Person.cl V_Person.n_own_slow (de_var (pv 1)) rfl) da_nil)) da_nil))) da_nil)) (by rfl)))
      (dss_cons (ds_if (dt_cmp op_gt (od_IB _) (de_var (pv 2)) (de_var (pv 3)) (nomark _)) (dss_one (ds_raise (ps_raise rfl (takes_of rfl rfl rfl rfl) (pmk_aim Z.ini Z.c_Nobody T.n_super (hr.mono (by decide)) rfl Z.m_Nobody (de_var (pv 1)))))) dss_nil)
      (dss_cons (ds_par (ps_par (i := 4) (j := 5) rfl sc_Person___and__.nd rfl rfl (by decide) rfl rfl (da_cons (de_call D_lesser hr (by first | decide | omega) (by first | exact hG | (intro z; cases z)) rfl (passes_call (takes_of rfl rfl rfl rfl) (fun _ _ _ _ h => h)) (da_cons (de_fld V_Person.cl V_Person.n_own_hold (de_var (pv 0)) rfl) (da_cons (de_fld V_Person.cl V_Person.n_own_hold (de_var (pv 1)) rfl) da_nil))) (da_cons (de_call D_lesser hr (by first | decide | omega) (by first | exact hG | (intro z; cases z)) rfl (passes_call (takes_of rfl rfl rfl rfl) (fun _ _ _ _ h => h)) (da_cons (de_fld V_Person.cl V_Person.n_own_ahead (de_var (pv 0)) rfl) (da_cons (de_fld V_Person.cl V_Person.n_own_ahead (de_var (pv 1)) rfl) da_nil))) da_nil)) (by rfl)))
      (dss_one (ds_ret (de_makeP MP_Person hr (by first | decide | omega) rfl V_Person.mg (passes_call (takes_of rfl rfl rfl rfl) (fun _ _ _ _ h => h)) (da_cons (de_var (pv 2)) (da_cons (de_call D_slow_of hr (by first | decide | omega) (by first | exact hG | (intro z; cases z)) rfl (passes_call (takes_of rfl rfl rfl rfl) (fun _ _ _ _ h => h)) (da_cons (de_var (pv 3)) da_nil)) da_nil)) (dk_cons (de_var (pv 4)) (dk_cons (de_var (pv 5)) dk_nil)))))))), fun ds n PP R h => ?_⟩) (fun ds n PP R h => ?_)
  · obtain ⟨x, y, rfl, hx, hy, k1, k2⟩ := h
    refine ⟨rfl, ?_⟩
    refine ⟨rfl, rfl, x.f, y.f, rfl, ?_⟩
    refine ⟨rfl, x.s, rfl, rfl, y.s, rfl, limI x.s, limI y.s, rfl, ?_⟩
    refine ite2 (fun c => k1 c) (fun c => ?_)
    have c : noR x y = false := Bool.eq_false_iff.mpr c
    refine ⟨rfl, rfl, x.h, y.h, rfl, rfl, rfl, x.a, y.a, rfl, ?_⟩
    exact ⟨lessI (limI x.s) (limI y.s), rfl, ⟨rfl, rfl⟩, andR x y, rfl, andR_ok hx hy c, k2 c⟩
  · obtain ⟨x, y, rfl, _⟩ := h
    rfl
theorem isO_kd2 {C : Addr} {d : Dat} {Q : Dat → Prop} (kd : Kd d) (q : Q (.bl false)) (no : ∀ C ks xs, d ≠ .obj C ks xs) : gIsO C d Q := by
  cases d <;> first
    | exact ⟨kd, q⟩
    | exact absurd rfl (no _ _ _)
theorem eqD_intP (i j : Int) : eqD (.int i) (.int j) = decide (i = j) := by
  show (i == j) = _
  by_cases h : i = j
  · rw [decide_eq_true h, h, beq_self_eq_true]
  · rw [decide_eq_false h, beq_eq_false_iff_ne.mpr h]
theorem eqD_slow (s t : Option Int) : eqD (slowD s) (slowD t) = decide (s = t) := by
  cases s with
  | none => cases t <;> rfl
  | some i =>
    cases t with
    | none => rfl
    | some j =>
      show eqD (.int i) (.int j) = _
      rw [eqD_intP]
      simp
theorem cmp_slow (s : Option Int) : cmpOk (slowD s) := by
  cases s <;> exact cmp_fl rfl
def eqR (x y : Rw) : Bool := decide (x.f = y.f) && decide (x.s = y.s) && (decide (x.h = y.h) && decide (x.a = y.a))
def spEqP (C : Addr) : DSp := fun ds n Q _ => ∃ x d, ds = [perD C x, d] ∧ (Kd d ∨ ∃ y, d = perD C y) ∧ (Kd d → Q (.bl false) n) ∧ ∀ y, d = perD C y → Q (.bl (eqR x y)) n
theorem sc_Person___eq__ : FnScope ["self", "other"] ["self", "other"] (defScope (inClass (top 18) 14)) := ⟨rfl, rfl, rfl, by decide +kernel, rfl, by decide +kernel, by decide +kernel⟩
theorem ok_perEq (MD : MdH K C "__eq__" "Person.__eq__" (inClass (top 18) 14)) (V_Person : ClsPerson K mg C) (I_Person : InsT K C) (T : Blt mg) : MdD P w K mg base TT 1 C "__eq__" (spEqP C) := by
  refine dat_okM MD (fun _ _ _ _ _ _ us hl => match us, hl with | [_, _], _ => rfl) sc_Person___eq__ (fun f cdv A outer s H E hr => ⟨_, (dss_cons (ds_if (PW.pt (dw_or (dt_not (dt_val (de_isO I_Person (pe_callB call_isi rfl T.n_isinstance boot_isinstance (pa_cons (de_var (pv 1)) (pa_cons (pe_glob (v := .ref _) rfl V_Person.mg rfl) pa_nil)))))) (dw_or (dt_cmp (op_neDD hr.units) od_ne (de_fld V_Person.cl V_Person.n_own_fast (de_var (pv 0)) rfl) (de_fld V_Person.cl V_Person.n_own_fast (de_var (pv 1)) rfl) (nomark _)) (dw_or1 (dt_cmp (op_neDD hr.units) od_ne (de_fld V_Person.cl V_Person.n_own_slow (de_var (pv 0)) rfl) (de_fld V_Person.cl V_Person.n_own_slow (de_var (pv 1)) rfl) (nomark _)))))) (dss_one (ds_ret de_bl)) dss_nil)
      (dss_one (ds_ret (de_and (de_cmp (op_eqDD hr.units) od_eq (de_fld V_Person.cl V_Person.n_own_hold (de_var (pv 0)) rfl) (de_fld V_Person.cl V_Person.n_own_hold (de_var (pv 1)) rfl) (nomark _)) (de_one (de_cmp (op_eqDD hr.units) od_eq (de_fld V_Person.cl V_Person.n_own_ahead (de_var (pv 0)) rfl) (de_fld V_Person.cl V_Person.n_own_ahead (de_var (pv 1)) rfl) (nomark _))))))), fun ds n PP R h => ?_⟩) (fun ds n PP R h => ?_)
  · obtain ⟨x, d, rfl, hd, k1, k2⟩ := h
    refine ⟨rfl, ?_⟩
    rcases hd with kd | ⟨y, rfl⟩
    · have k := k1 kd
      have no : ∀ C ks xs, d ≠ .obj C ks xs := fun C ks xs e => by
        rw [e] at kd
        cases kd
      refine isO_kd2 kd ?_ no
      exact k
    · have k := k2 y rfl
      unfold eqR at k
      refine ⟨rfl, rfl, rfl, ⟨cmp_fl rfl, cmp_fl rfl⟩, ?_⟩
      rw [eqD_intP]
      by_cases e1 : x.f = y.f
      · rw [decide_eq_true e1] at k ⊢
        refine ⟨rfl, rfl, ⟨cmp_slow _, cmp_slow _⟩, ?_⟩
        rw [eqD_slow]
        by_cases e2 : x.s = y.s
        · rw [decide_eq_true e2] at k ⊢
          refine ⟨rfl, rfl, ⟨cmp_fl rfl, cmp_fl rfl⟩, ?_⟩
          rw [eqD_intP]
          by_cases e3 : x.h = y.h
          · rw [decide_eq_true e3] at k ⊢
            refine ⟨rfl, rfl, ⟨cmp_fl rfl, cmp_fl rfl⟩, ?_⟩
            rw [eqD_intP]
            exact k
          · rw [decide_eq_false e3] at k ⊢
            exact k
        · rw [decide_eq_false e2] at k ⊢
          exact k
      · rw [decide_eq_false e1] at k ⊢
        exact k
  · obtain ⟨x, d, rfl, _⟩ := h
    rfl
end
end
end Aim

namespace Aim
open PySem PySem.Spec PyProof.Rows L2 RZ
open LamX (TabB)
section
variable {P : Program} {w : World} {K : PySem.W.Frag} {mg : Str → Option Value} {base : Heap} {TT : List (Addr × Str)}
theorem cmp_flat {d : Dat} (h : flatK d = true) : cmpOk d := by
  cases d <;> first | exact ⟨rfl, by show PyData.depth _ ≤ 60; simp [py, PyData.depth]⟩ | cases h
theorem numL_int : ∀ {lo : Int} {k : Nat} {i : Nat} {d : Dat}, (numL lo k)[i]? = some d → ∃ j : Int, d = .int j ∧ lo ≤ j ∧ j < lo + k
  | lo, 0, i, d, h => by simp [numL] at h
  | lo, k + 1, 0, d, h => by
    simp [numL] at h
    exact ⟨lo, h.symm, by omega, by push_cast; omega⟩
  | lo, k + 1, i + 1, d, h => by
    obtain ⟨j, e, h1, h2⟩ := numL_int (lo := lo + 1) (k := k) (i := i) (d := d) (by simpa [numL] using h)
    exact ⟨j, e, by omega, by push_cast; omega⟩
theorem isNm_cons {x : Str} {c : Nat} (h : ∀ a ∈ x.cps.toList, isLet a) (hc : isLet c) : ∀ a ∈ (x ++ ⟨#[c]⟩ : Str).cps.toList, isLet a := fun a ha => by
  have e : (x ++ ⟨#[c]⟩ : Str).cps = x.cps ++ #[c] := rfl
  rw [e] at ha
  simp only [Array.toList_append, List.mem_append, List.mem_singleton] at ha
  rcases ha with ha | ha
  · exact h a ha
  · rw [ha]
    exact hc
/-- a drawn name: at most ten draws -/
def spName : DSp := fun ds n Q _ => ds = [.pot] ∧ n < 900000 ∧ ∀ x m, isNm x → n ≤ m → m ≤ n + 10 → Q (.str x) m
/-! ### the law's own look -/
def kindOf (x : Str) (d : Dat) : Bool := if x = "bool" then tyK d == some "bool" else if x = "int" then tyK d == some "int" else tyK d == some "str"
def spIs : DSp := fun ds n Q _ => ∃ (x : Str) (d : Dat), ds = [.str x, d] ∧ (tyK d).isSome = true ∧ Q (.bl (kindOf x d)) n
theorem isT_bool {d : Dat} {t : String} (h : tyK d = some t) : isT "bool" t = (tyK d == some "bool") := by
  rw [h]
  rcases tyK_mem h with h | h | h | h | h | h | h | h <;> subst h <;> rfl
theorem isT_str {d : Dat} {t : String} (h : tyK d = some t) : isT "str" t = (tyK d == some "str") := by
  rw [h]
  rcases tyK_mem h with h | h | h | h | h | h | h | h <;> subst h <;> rfl
theorem isT_int {d : Dat} {t : String} (h : tyK d = some t) : (isT "int" t && !isT "bool" t) = (tyK d == some "int") := by
  rw [h]
  rcases tyK_mem h with h | h | h | h | h | h | h | h <;> subst h <;> rfl
theorem sc__law_is : FnScope ["_law_kind", "_law_value"] ["_law_kind", "_law_value"] (defScope (top 25)) := ⟨rfl, rfl, rfl, by decide +kernel, rfl, by decide +kernel, by decide +kernel⟩
theorem ok_is {G : Bool} (F : Has K mg "_law_is" (top 25)) (T : Blt mg) : Df P w K mg base G 1 "_law_is" (LSp K TT spIs) := by
  refine dat_ok F (fun f fd F => F.binds (fun _ _ _ _ _ _ us hl => match us, hl with | [_, _], _ => rfl)) sc__law_is (fun f cdv A outer s H E hr hG => ⟨_, (dss_cons (ds_if (dt_cmp (op_eqDD hr.units) od_eq (de_var (pv 0)) de_str (nomark _)) (dss_one (ds_ret (de_cb (cd_isT (T := "bool") (by simp)) (pe_callB call_isi rfl T.n_isinstance boot_isinstance (da_cons (de_var (pv 1)) (da_cons (de_c (pe_bltn (v := .ty "bool") rfl T.n_bool boot_bool rfl) (fun _ _ => .ty _)) da_nil)))))) dss_nil)
      (dss_cons (ds_if (dt_cmp (op_eqDD hr.units) od_eq (de_var (pv 0)) de_str (nomark _)) (dss_one (ds_ret (de_and (de_cb (cd_isT (T := "int") (by simp)) (pe_callB call_isi rfl T.n_isinstance boot_isinstance (da_cons (de_var (pv 1)) (da_cons (de_c (pe_bltn (v := .ty "int") rfl T.n_int boot_int rfl) (fun _ _ => .ty _)) da_nil)))) (de_one (de_not (de_cb (cd_isT (T := "bool") (by simp)) (pe_callB call_isi rfl T.n_isinstance boot_isinstance (da_cons (de_var (pv 1)) (da_cons (de_c (pe_bltn (v := .ty "bool") rfl T.n_bool boot_bool rfl) (fun _ _ => .ty _)) da_nil))))))))) dss_nil)
      (dss_one (ds_ret (de_cb (cd_isT (T := "str") (by simp)) (pe_callB call_isi rfl T.n_isinstance boot_isinstance (da_cons (de_var (pv 1)) (da_cons (de_c (pe_bltn (v := .ty "str") rfl T.n_str boot_str rfl) (fun _ _ => .ty _)) da_nil)))))))), fun ds n PP R h => ?_⟩) (fun ds n PP R h => ?_)
  · obtain ⟨x, d, rfl, ht, k⟩ := h
    obtain ⟨t, e⟩ := Option.isSome_iff_exists.mp ht
    have hq : ∀ Q : String → Prop, Q t → optD (tyK d) Q := fun Q q => by rw [e]; exact q
    refine ⟨rfl, ?_⟩
    unfold kindOf at k
    refine ⟨⟨cmp_flat rfl, cmp_flat rfl⟩, ?_⟩
    refine ite2 (fun c => ?_) (fun c => ?_)
    · have c : x = "bool" := by simpa [eqD, py, PyData.eqv] using c
      rw [if_pos c, ← isT_bool e] at k
      exact ⟨rfl, hq _ k⟩
    · have c : x ≠ "bool" := by simpa [eqD, py, PyData.eqv] using c
      rw [if_neg c] at k
      refine ⟨⟨cmp_flat rfl, cmp_flat rfl⟩, ?_⟩
      refine ite2 (fun c => ?_) (fun c => ?_)
      · have c : x = "int" := by simpa [eqD, py, PyData.eqv] using c
        rw [if_pos c, ← isT_int e] at k
        refine ⟨rfl, hq _ ?_⟩
        refine ite2 (fun c => ?_) (fun c => ?_)
        · rw [c, Bool.true_and] at k
          exact ⟨rfl, hq _ k⟩
        · rw [Bool.eq_false_iff.mpr c, Bool.false_and] at k
          exact k
      · have c : x ≠ "int" := by simpa [eqD, py, PyData.eqv] using c
        rw [if_neg c, ← isT_str e] at k
        exact ⟨rfl, hq _ k⟩
  · obtain ⟨x, d, rfl, _⟩ := h
    rfl
/-! ### the same, in kind and through all parts -/
mutual
def sameD : Dat → Dat → Bool
  | .non, .non => true
  | .bl a, .bl b => a == b
  | .int a, .int b => a == b
  | .str a, .str b => a == b
  | .tup xs, .tup ys => sameDs xs ys
  | .lst xs, .lst ys => sameDs xs ys
  | _, _ => false
def sameDs : List Dat → List Dat → Bool
  | [], [] => true
  | x :: xs, y :: ys => sameD x y && sameDs xs ys
  | _, _ => false
end
/-- data of at most n parts within one another -/
def Lvl : Nat → Dat → Prop
  | 0, d => flatK d = true
  | n + 1, d => flatK d = true ∨ ∃ xs, (d = .tup xs ∨ d = .lst xs) ∧ ∀ x ∈ xs, Lvl n x
theorem sameDs_len : ∀ {xs ys : List Dat}, xs.length ≠ ys.length → sameDs xs ys = false
  | [], [], h => absurd rfl h
  | [], _ :: _, _ => rfl
  | _ :: _, [], _ => rfl
  | x :: xs, y :: ys, h => by
    show (sameD x y && sameDs xs ys) = false
    rw [sameDs_len (fun z => h (congrArg (· + 1) z)), Bool.and_false]
theorem sameDs_all : ∀ {xs ys : List Dat}, xs.length = ys.length → ((List.zipWith sameD xs ys).all id) = sameDs xs ys
  | [], [], _ => rfl
  | x :: xs, y :: ys, h => by
    show (sameD x y && ((List.zipWith sameD xs ys).all id)) = _
    rw [sameDs_all (Nat.succ.inj h)]
    rfl
theorem plains_mem : ∀ {xs : List Dat}, plains xs = true → ∀ x ∈ xs, plain x = true
  | x :: xs, h, y, hy => by
    have h2 := Bool.and_eq_true_iff.mp (show (plain x && plains xs) = true from h)
    rcases List.mem_cons.mp hy with z | z
    · rw [z]
      exact h2.1
    · exact plains_mem h2.2 y z
theorem plain_ty {d : Dat} (h : plain d = true) : ∃ t, tyK d = some t := by
  cases d <;> first | exact ⟨_, rfl⟩ | cases h
def spSame (n : Nat) : DSp := fun ds m Q _ => ∃ d e : Dat, ds = [d, e] ∧ Lvl n d ∧ plain d = true ∧ plain e = true ∧ Q (.bl (sameD d e)) m
theorem flat_same {d e : Dat} (hd : flatK d = true) (he : flatK e = true) (h : kindOf "bool" d = kindOf "bool" e ∧ kindOf "int" d = kindOf "int" e ∧ kindOf "str" d = kindOf "str" e) : eqD d e = sameD d e := by
  cases d <;> first | cases hd | skip
  all_goals cases e <;> first | cases he | skip
  all_goals first | rfl | exact Bool.noConfusion (show true = false from h.1) | exact Bool.noConfusion (show false = true from h.1)
theorem flat_diff {d e : Dat} (hd : flatK d = true) (he : flatK e = true) (x : Str) (hx : x = "bool" ∨ x = "int" ∨ x = "str") (h : kindOf x d ≠ kindOf x e) : sameD d e = false := by
  cases d <;> first | cases hd | skip
  all_goals cases e <;> first | cases he | skip
  all_goals first | rfl | (exfalso; rcases hx with hx | hx | hx <;> subst hx <;> exact h rfl)
theorem flat_tyTL {d : Dat} (h : flatK d = true) : ∃ t, tyK d = some t ∧ (t == "tuple" || t == "list") = false ∧ isT "tuple" t = false ∧ isT "list" t = false := by
  cases d <;> first | exact ⟨_, rfl, rfl, rfl, rfl⟩ | cases h
theorem seq_of {d : Dat} (h : plain d = true) (f : ¬ flatK d = true) : ∃ xs, plains xs = true ∧ (d = .tup xs ∨ d = .lst xs) := by
  cases d <;> first | exact absurd rfl f | exact ⟨_, h, .inl rfl⟩ | exact ⟨_, h, .inr rfl⟩ | cases h
theorem pairs_mem {xs ys : List Dat} {d : Dat} (h : d ∈ pairs xs ys) : ∃ x ∈ xs, ∃ y ∈ ys, d = .tup [x, y] := by
  obtain ⟨i, hi⟩ := List.mem_iff_getElem?.mp h
  obtain ⟨x, y, h1, h2, e⟩ := pairs_get hi
  exact ⟨x, List.mem_of_getElem? h1, y, List.mem_of_getElem? h2, e⟩
/-- the answers of a pair -/
def same2 : Dat → Dat
  | .tup [x, y] => .bl (sameD x y)
  | d => d
theorem same2_pairs : ∀ xs ys : List Dat, (pairs xs ys).map same2 = (List.zipWith sameD xs ys).map Dat.bl
  | [], _ => by simp [pairs]
  | _ :: _, [] => by simp [pairs]
  | x :: xs, y :: ys => by
    have := same2_pairs xs ys
    simp only [pairs, List.zipWith_cons_cons, List.map_cons] at this ⊢
    rw [this]
    rfl
theorem sc__law_same : FnScope ["_law_one", "_law_other", "_law_kind", "_law_both", "_law_lists", "_law_here", "_law_there"] ["_law_one", "_law_other"] (defScope (top 24)) := ⟨rfl, rfl, rfl, by decide +kernel, rfl, by decide +kernel, by decide +kernel⟩
theorem same_step {G : Bool} {lv : Nat} {sp0 : DSp} (F : Has K mg "_law_same" (top 24)) (T : Blt mg) (D__law_is : Df P w K mg base false 1 "_law_is" (LSp K TT spIs)) (D__law_same : Df P w K mg base G (lv + 1) "_law_same" (LSp K TT sp0))
    (hc : ∀ d, Lvl lv d → ∀ xs, (d = .tup xs ∨ d = .lst xs) → ∀ x ∈ xs, ∀ (y : Dat) (m : Nat) (Q : Dat → Nat → Prop) (R : RX), plain x = true → plain y = true → Q (.bl (sameD x y)) m → sp0 [x, y] m Q R) : Df P w K mg base G (lv + 2) "_law_same" (LSp K TT (spSame lv)) := by
  refine dat_ok F (fun f fd F => F.binds (fun _ _ _ _ _ _ us hl => match us, hl with | [_, _], _ => rfl)) sc__law_same (fun f cdv A outer s H E hr hG => ⟨_, (dss_cons (ds_if (PW.pt (dw_or (dt_val (de_isTL (pe_callB call_isiT rfl T.n_isinstance boot_isinstance (pa_cons (de_var (pv 0)) (pa_cons (pe_tup (pa_cons (pe_bltn (v := .ty "tuple") rfl T.n_tuple boot_tuple rfl) (pa_cons (pe_bltn (v := .ty "list") rfl T.n_list boot_list rfl) pa_nil))) pa_nil))))) (dw_or1 (dt_val (de_isTL (pe_callB call_isiT rfl T.n_isinstance boot_isinstance (pa_cons (de_var (pv 1)) (pa_cons (pe_tup (pa_cons (pe_bltn (v := .ty "tuple") rfl T.n_tuple boot_tuple rfl) (pa_cons (pe_bltn (v := .ty "list") rfl T.n_list boot_list rfl) pa_nil))) pa_nil)))))))) (dss_cons (ds_set (i := 3) sc__law_same.nd rfl (Or.inl rfl) (de_and (de_cb (cd_isT (T := "tuple") (by simp)) (pe_callB call_isi rfl T.n_isinstance boot_isinstance (da_cons (de_var (pv 0)) (da_cons (de_c (pe_bltn (v := .ty "tuple") rfl T.n_tuple boot_tuple rfl) (fun _ _ => .ty _)) da_nil)))) (de_one (de_cb (cd_isT (T := "tuple") (by simp)) (pe_callB call_isi rfl T.n_isinstance boot_isinstance (da_cons (de_var (pv 1)) (da_cons (de_c (pe_bltn (v := .ty "tuple") rfl T.n_tuple boot_tuple rfl) (fun _ _ => .ty _)) da_nil)))))))
      (dss_cons (ds_set (i := 4) sc__law_same.nd rfl (Or.inl rfl) (de_and (de_cb (cd_isT (T := "list") (by simp)) (pe_callB call_isi rfl T.n_isinstance boot_isinstance (da_cons (de_var (pv 0)) (da_cons (de_c (pe_bltn (v := .ty "list") rfl T.n_list boot_list rfl) (fun _ _ => .ty _)) da_nil)))) (de_one (de_cb (cd_isT (T := "list") (by simp)) (pe_callB call_isi rfl T.n_isinstance boot_isinstance (da_cons (de_var (pv 1)) (da_cons (de_c (pe_bltn (v := .ty "list") rfl T.n_list boot_list rfl) (fun _ _ => .ty _)) da_nil)))))))
      (dss_cons (ds_if (PW.pt (dw_or (PW.pt (dw_and (dt_not (dt_val (de_var (pv 3)))) (dw_and1 (dt_not (dt_val (de_var (pv 4))))))) (dw_or1 (dt_cmp (op_neDD hr.units) od_ne (de_cb cd_len (pe_callB call_len rfl T.n_len boot_len (da_cons (de_var (pv 0)) da_nil))) (de_cb cd_len (pe_callB call_len rfl T.n_len boot_len (da_cons (de_var (pv 1)) da_nil))) (nomark _))))) (dss_one (ds_ret de_bl)) dss_nil)
      (dss_one (ds_ret (de_cb cd_all (pe_callB (cr_all rfl) rfl T.n_all boot_all (da_cons (de_fr (lf_lcI (own := [("_law_here", 5), ("_law_there", 6)]) rfl sc__law_same.nd (di_zip (pi_zipN rfl T.n_zip (da_cons (de_var (pv 0)) (da_cons (de_var (pv 1)) da_nil)))) (blkOk_by rfl) (fun _ _ _ _ _ => (dg_tup (n := 2) rfl (dgs_cons (dg_name (pg_name (i := 5) sc__law_same.nd rfl (Or.inl rfl) (Or.inr rfl))) (dgs_cons (dg_name (pg_name (i := 6) sc__law_same.nd rfl (Or.inl rfl) (Or.inr rfl))) dgs_nil)) (fun ds ρ P h => dgl_len (l := [5, 6]) h))) (fun _ _ _ _ _ => dts_nil) (fun _ _ _ _ _ => (de_call D__law_same hr (by first | decide | omega) (by first | exact hG | (intro z; cases z)) rfl passL (da_cons (de_var (pv 5)) (da_cons (de_var (pv 6)) da_nil)))))) da_nil)))))))) dss_nil)
      (dss_cons (ds_forI PassesOwn.never rfl (di_tup (de_tup (da_cons de_str (da_cons de_str (da_cons de_str da_nil))))) (dg_name (pg_name (i := 2) sc__law_same.nd rfl (Or.inl rfl) (Or.inl rfl))) (dss_one (ds_if (dt_cmp (op_neDD hr.units) od_ne (de_call D__law_is hr (by first | decide | omega) (by first | exact hG | (intro z; cases z)) rfl passL (da_cons (de_var (pv 2)) (da_cons (de_var (pv 0)) da_nil))) (de_call D__law_is hr (by first | decide | omega) (by first | exact hG | (intro z; cases z)) rfl passL (da_cons (de_var (pv 2)) (da_cons (de_var (pv 1)) da_nil))) (nomark _)) (dss_one (ds_ret de_bl)) dss_nil)))
      (dss_one (ds_ret (de_cmp (op_eqDD hr.units) od_eq (de_var (pv 0)) (de_var (pv 1)) (nomark _)))))), fun ds n PP R h => ?_⟩) (fun ds n PP R h => ?_)
  · obtain ⟨d, e, rfl, hl, pd, pe, k⟩ := h
    refine ⟨rfl, ?_⟩
    have oq : ∀ {x : Dat} {t : String} {Q : String → Prop}, tyK x = some t → Q t → optD (tyK x) Q := fun {x t Q} e q => by rw [e]; exact q
    by_cases fd : flatK d = true
    · obtain ⟨t, e1, e2, e5, e6⟩ := flat_tyTL fd
      refine oq e1 ?_
      show if (t == "tuple" || t == "list") = true then _ else _
      rw [e2]
      refine iteF ?_
      by_cases fe : flatK e = true
      · obtain ⟨t3, e3, e4, _, _⟩ := flat_tyTL fe
        refine oq e3 ?_
        show if (t3 == "tuple" || t3 == "list") = true then _ else _
        rw [e4]
        refine iteF ?_
        refine ⟨by show 3 ≤ sizeLine; decide, fun i ρ' m' => ∃ s : Sl, ρ' = [.val d, .val e, s, .no, .no, .no, .no] ∧ m' = n ∧ ∀ x ∈ (["bool", "int", "str"] : List Str).take i, kindOf x d = kindOf x e, ⟨.no, rfl, rfl, fun x hx => by simp at hx⟩, ?_, ?_⟩
        · rintro i a ρ' m' ha ⟨s, rfl, rfl, hk⟩
          have ha2 : ∃ x : Str, a = .str x ∧ (["bool", "int", "str"] : List Str)[i]? = some x := by
            match i, ha with
            | 0, ha => cases ha; exact ⟨_, rfl, rfl⟩
            | 1, ha => cases ha; exact ⟨_, rfl, rfl⟩
            | 2, ha => cases ha; exact ⟨_, rfl, rfl⟩
            | i + 3, ha => cases ha
          obtain ⟨x, rfl, hx⟩ := ha2
          refine ⟨x, d, rfl, by rw [e1]; rfl, x, e, rfl, by rw [e3]; rfl, ⟨cmp_flat rfl, cmp_flat rfl⟩, ?_⟩
          have hx2 : x = "bool" ∨ x = "int" ∨ x = "str" := by
            have := List.mem_of_getElem? hx
            simpa using this
          by_cases hxe : kindOf x d = kindOf x e
          · show if (!(kindOf x d == kindOf x e)) = true then _ else _
            rw [hxe, beq_self_eq_true]
            refine iteF ⟨_, rfl, rfl, fun y hy => ?_⟩
            rw [List.take_add_one, hx] at hy
            rcases List.mem_append.mp hy with z | z
            · exact hk y z
            · simp at z
              rw [z]
              exact hxe
          · show if (!(kindOf x d == kindOf x e)) = true then _ else _
            rw [beq_eq_false_iff_ne.mpr hxe]
            rw [flat_diff fd fe x hx2 hxe] at k
            exact k
        · rintro ρ' m' ⟨s, rfl, rfl, hk⟩
          refine ⟨⟨cmp_flat fd, cmp_flat fe⟩, ?_⟩
          rw [flat_same fd fe ⟨hk _ (by simp), hk _ (by simp), hk _ (by simp)⟩]
          exact k
      · obtain ⟨ys, py, he⟩ := seq_of pe fe
        have no : sameD d e = false := by
          rcases he with rfl | rfl <;> cases d <;> first | rfl | cases fd
        have e4 : ∃ t3, tyK e = some t3 ∧ (t3 == "tuple" || t3 == "list") = true := by rcases he with rfl | rfl <;> exact ⟨_, rfl, rfl⟩
        obtain ⟨t3, e3, e4⟩ := e4
        rw [no] at k
        refine oq e3 ?_
        show if (t3 == "tuple" || t3 == "list") = true then _ else _
        rw [e4]
        refine iteT ?_
        refine ⟨rfl, oq e1 ?_⟩
        show if isT "tuple" t = true then _ else _
        rw [e5]
        refine iteF ⟨rfl, oq e1 ?_⟩
        show if isT "list" t = true then _ else _
        rw [e6]
        exact k
    · obtain ⟨xs, px, hd⟩ := seq_of pd fd
      have hmem : ∀ x ∈ xs, plain x = true := plains_mem px
      have go : ∀ ys : List Dat, plains ys = true → xs.length = ys.length → PP (.bl (sameDs xs ys)) n → ∀ (ρ : List Sl), ρ.length = 7 → compI [5, 6] (dgTup (dgCons (dgName 5) (dgCons (dgName 6) dgNil))) (fun _ n P _ => P true n) (dCall sp0 (dCons (dVar 5) (dCons (dVar 6) dNil))) ρ (fun zs m => bools zs fun bs => PP (.bl (bs.all id)) m) (pairs xs ys) n := fun ys py hlen kk ρ hρ => by
        refine compI_map same2 (fun p hp Q q => ?_) ?_
        · obtain ⟨x, hx, y, hy, rfl⟩ := pairs_mem hp
          match ρ, hρ with
          | [_, _, _, _, _, _, _], _ => exact hc d hl xs hd x hx y _ _ _ (hmem x hx) (plains_mem py y hy) q
        · rw [same2_pairs]
          refine bools_map _ ?_
          rw [sameDs_all hlen]
          exact kk
      have lenNe : ∀ a b : Nat, a ≠ b → (!eqD (.int (a : Nat)) (.int (b : Nat))) = true := fun a b h => by
        show (!((a : Int) == (b : Int))) = true
        rw [beq_eq_false_iff_ne.mpr (by omega)]
        rfl
      have lenEq : ∀ a b : Nat, a = b → (!eqD (.int (a : Nat)) (.int (b : Nat))) = false := fun a b h => by
        subst h
        show (!((a : Int) == (a : Int))) = false
        rw [beq_self_eq_true]
        rfl
      by_cases fe : flatK e = true
      · obtain ⟨t3, e3, e4, e5, e6⟩ := flat_tyTL fe
        have no : sameD d e = false := by rcases hd with rfl | rfl <;> cases e <;> first | rfl | cases fe
        rw [no] at k
        rcases hd with rfl | rfl
        · refine ⟨rfl, rfl, oq e3 ?_⟩
          rw [e5]
          exact ⟨rfl, k⟩
        · refine ⟨rfl, rfl, rfl, oq e3 ?_⟩
          rw [e6]
          exact k
      · obtain ⟨ys, py, he⟩ := seq_of pe fe
        rcases hd with rfl | rfl
        · rcases he with rfl | rfl
          · refine ⟨rfl, rfl, rfl, ⟨cmp_flat rfl, cmp_flat rfl⟩, ?_⟩
            by_cases hlen : xs.length = ys.length
            · show if (!eqD (.int (xs.length : Nat)) (.int (ys.length : Nat))) = true then _ else _
              rw [lenEq _ _ hlen]
              exact iteF ⟨hlen, go ys py hlen k _ rfl⟩
            · show if (!eqD (.int (xs.length : Nat)) (.int (ys.length : Nat))) = true then _ else _
              rw [lenNe _ _ hlen]
              rw [show sameD (.tup xs) (.tup ys) = false from sameDs_len hlen] at k
              exact iteT k
          · exact ⟨rfl, rfl, rfl, k⟩
        · rcases he with rfl | rfl
          · exact ⟨rfl, rfl, rfl, k⟩
          · refine ⟨rfl, rfl, rfl, ⟨cmp_flat rfl, cmp_flat rfl⟩, ?_⟩
            by_cases hlen : xs.length = ys.length
            · show if (!eqD (.int (xs.length : Nat)) (.int (ys.length : Nat))) = true then _ else _
              rw [lenEq _ _ hlen]
              exact iteF (go ys py hlen k _ rfl)
            · show if (!eqD (.int (xs.length : Nat)) (.int (ys.length : Nat))) = true then _ else _
              rw [lenNe _ _ hlen]
              rw [show sameD (.lst xs) (.lst ys) = false from sameDs_len hlen] at k
              exact iteT k
  · obtain ⟨d, e, rfl, _⟩ := h
    rfl
end
end Aim

namespace Aim
open PySem PySem.Spec PyProof.Rows L2 RZ
open LamX (TabB)
section
variable {P : Program} {w : World} {K : PySem.W.Frag} {mg : Str → Option Value} {base : Heap} {TT : List (Addr × Str)}
/-- a def that no call reaches -/
theorem Df.none {G : Bool} {k : Nat} {x : Str} {st : Stmt} {ps : List Str} (F : Has K mg x st) (hb : ∀ f fd, L2.Fun K x x st f fd → L2.Binds K fd ps []) : Df P w K mg base G k x (LSp (S := Nat) K TT fun _ _ _ _ => False) := by
  obtain ⟨f, fd, F, hm⟩ := F.ex
  exact ⟨f, fd, ps, ⟨fun _ _ _ _ ⟨_, _, _, _, _, h, _⟩ => h.elim, fun _ _ _ _ _ ⟨_, _, _, _, _, h, _⟩ => h.elim⟩, hm, F.kp, hb f fd F⟩
theorem lvl_inner {n : Nat} {d : Dat} (h : Lvl (n + 1) d) {xs : List Dat} (e : d = .tup xs ∨ d = .lst xs) : ∀ x ∈ xs, Lvl n x := by
  rcases h with h | ⟨ys, h, q⟩
  · rcases e with rfl | rfl <;> cases h
  · rcases e with rfl | rfl <;> rcases h with h | h <;> cases h <;> exact q
theorem ok_same {G : Bool} (F : Has K mg "_law_same" (top 24)) (T : Blt mg) (D__law_is : Df P w K mg base false 1 "_law_is" (LSp K TT spIs)) : ∀ lv : Nat, Df P w K mg base G (lv + 2) "_law_same" (LSp K TT (spSame lv))
  | 0 => same_step (sp0 := fun _ _ _ _ => False) F T D__law_is (.none (ps := ["_law_one", "_law_other"]) F fun f fd F => F.binds (fun _ _ _ _ _ _ us hl => match us, hl with | [_, _], _ => rfl)) fun d hd xs e => by
    rcases e with rfl | rfl <;> cases hd
  | lv + 1 => same_step (lv := lv + 1) F T D__law_is (ok_same F T D__law_is lv) fun d hd xs e x hx y m Q R px py q => ⟨x, y, rfl, lvl_inner hd e x hx, px, py, q⟩
/-! ### odd values -/
def oddL : List Dat := [.non, .int (-1), .int 10, .int (10 ^ 40), .str "", .str "A", .str "a b", .str "abcdefghi", .str "a1", .tup [.non], .tup [.tup []], .lst [], .lst [.str "a"], .dct [] [], .dct [.inr "a"] [.int 1]]
def spOdd : DSp := fun ds n Q _ => ds = [.pot] ∧ n < 1000000 ∧ ∀ v ∈ oddL, Q v (n + 1)
theorem sc__law_odd : FnScope ["_law_pot_here", "_law_some"] ["_law_pot_here"] (defScope (top 26)) := ⟨rfl, rfl, rfl, by decide +kernel, rfl, by decide +kernel, by decide +kernel⟩
theorem ok_odd {G : Bool} (F : Has K mg "_law_odd" (top 26)) (T : Blt mg) (D__law_of : Df P w K mg base false 2 "_law_of" (LSp K TT spOf)) : Df P w K mg base G 3 "_law_odd" (LSp K TT spOdd) := by
  refine dat_ok F (fun f fd F => F.binds (fun _ _ _ _ _ _ us hl => match us, hl with | [_], _ => rfl)) sc__law_odd (fun f cdv A outer s H E hr hG => ⟨_, (dss_cons (ds_set (i := 1) sc__law_odd.nd rfl (Or.inl rfl) (de_lst (da_cons de_non (da_cons (de_neg de_int) (da_cons de_int (da_cons (de_op op_powW (od_IC _) de_int de_int) (da_cons de_str (da_cons de_str (da_cons de_str (da_cons de_str (da_cons de_str (da_cons (de_tup (da_cons de_non da_nil)) (da_cons (de_tup (da_cons (de_tup da_nil) da_nil)) (da_cons (de_lst da_nil) (da_cons (de_lst (da_cons de_str da_nil)) (da_cons (de_dict0) (da_cons (de_dict1 (d := .int 1) pe_int rfl (fun _ _ => .int 1)) da_nil)))))))))))))))))
      (dss_one (ds_ret (de_call D__law_of hr (by first | decide | omega) (by first | exact hG | (intro z; cases z)) rfl passL (da_cons (de_var (pv 0)) (da_cons (de_var (pv 1)) da_nil)))))), fun ds n PP R h => ?_⟩) (fun ds n PP R h => ?_)
  · obtain ⟨rfl, hn, k⟩ := h
    exact ⟨rfl, ⟨by decide, by decide⟩, by show 1 ≤ sizeLine; decide, by show 0 ≤ sizeLine; decide, by show 1 ≤ sizeLine; decide, by show 0 ≤ sizeLine; decide, by show 1 ≤ sizeLine; decide, by show 15 ≤ sizeLine; decide, oddL, .inl rfl, hn, by decide, by decide, k⟩
  · obtain ⟨rfl, _⟩ := h
    rfl
/-! ### names -/
def isName : Dat → Bool
  | .str x => decide (1 ≤ x.cps.size) && decide (x.cps.size ≤ 8) && x.cps.toList.all fun c => decide (c ∈ abc.cps.toList)
  | _ => false
def spIsName : DSp := fun ds n Q _ => ∃ d : Dat, ds = [d] ∧ (tyK d).isSome = true ∧ Q (.bl (isName d)) n
theorem ty_of {d : Dat} (h : (tyK d).isSome = true) {Q : String → Prop} (k : ∀ t, tyK d = some t → Q t) : optD (tyK d) Q := by
  obtain ⟨t, e⟩ := Option.isSome_iff_exists.mp h
  rw [e]
  exact k t e
/-- a text, or its kind is no text's -/
theorem str_or {d : Dat} (h : (tyK d).isSome = true) : (∃ x, d = .str x) ∨ ∃ t, tyK d = some t ∧ isT "str" t = false := by
  cases d <;> first | exact .inl ⟨_, rfl⟩ | exact .inr ⟨_, rfl, rfl⟩ | cases h
theorem tup_or {d : Dat} (h : (tyK d).isSome = true) : (∃ x, d = .tup x) ∨ ∃ t, tyK d = some t ∧ isT "tuple" t = false := by
  cases d <;> first | exact .inl ⟨_, rfl⟩ | exact .inr ⟨_, rfl, rfl⟩ | cases h
def inAbc : Dat → Dat
  | .str ⟨⟨[c]⟩⟩ => .bl (decide (c ∈ abc.cps.toList))
  | d => d
theorem signs_mem {x : Str} {d : Dat} (h : d ∈ signs x) : ∃ c, d = .str ⟨#[c]⟩ := by
  obtain ⟨c, _, e⟩ := List.mem_map.mp h
  exact ⟨c, e.symm⟩
theorem inAbc_signs (x : Str) : (signs x).map inAbc = (x.cps.toList.map fun c => decide (c ∈ abc.cps.toList)).map Dat.bl := by
  unfold signs
  rw [List.map_map, List.map_map]
  rfl
/-! ### values bent -/
/-- what stands in a value that is bent: small and flat -/
def flatS : Dat → Prop
  | .non => True | .bl _ => True
  | .int i => -1 ≤ i ∧ i ≤ 1000
  | .str x => x.cps.size ≤ 60
  | _ => False
def InV : Nat → Dat → Prop
  | 0, d => flatS d
  | k + 1, d => flatS d ∨ ∃ xs, d = .tup xs ∧ xs.length ≤ 500 ∧ ∀ x ∈ xs, InV k x
/-- what a bent value is made of: kinds known, texts short -/
def flatO : Dat → Prop
  | .non => True | .bl _ => True | .int _ => True
  | .str x => x.cps.size ≤ 100
  | .dct _ _ => True
  | _ => False
def OutV : Nat → Dat → Prop
  | 0, d => flatO d
  | k + 1, d => flatO d ∨ ∃ xs, (d = .tup xs ∨ d = .lst xs) ∧ xs.length ≤ 1001 ∧ ∀ x ∈ xs, OutV k x
theorem flatS_O {d : Dat} (h : flatS d) : flatO d := by
  cases d <;> first | trivial | (show _ ≤ 100; have : _ ≤ 60 := h; omega) | cases h
theorem OutV.up : ∀ {k : Nat} {d : Dat}, OutV k d → OutV (k + 1) d
  | 0, d, h => .inl h
  | k + 1, d, h => by
    rcases h with h | ⟨xs, e, l, q⟩
    · exact .inl h
    · exact .inr ⟨xs, e, l, fun x hx => (q x hx).up⟩
theorem OutV.le {k j : Nat} {d : Dat} (h : OutV k d) (hj : k ≤ j) : OutV j d := by
  induction hj with
  | refl => exact h
  | step _ ih => exact ih.up
theorem OutV.flat {d : Dat} (h : flatO d) : ∀ k, OutV k d
  | 0 => h
  | _ + 1 => .inl h
theorem InV.out : ∀ {k : Nat} {d : Dat}, InV k d → OutV k d
  | 0, d, h => flatS_O h
  | k + 1, d, h => by
    rcases h with h | ⟨xs, e, l, q⟩
    · exact .inl (flatS_O h)
    · exact .inr ⟨xs, .inl e, by omega, fun x hx => (q x hx).out⟩
theorem OutV.ty : ∀ {k : Nat} {d : Dat}, OutV k d → (tyK d).isSome = true
  | 0, d, h => by cases d <;> first | rfl | cases h
  | k + 1, d, h => by
    rcases h with h | ⟨xs, rfl | rfl, _⟩
    · cases d <;> first | rfl | cases h
    · rfl
    · rfl
theorem odd_out {k : Nat} : ∀ v ∈ oddL, OutV (k + 2) v := fun v hv => by
  have e : flatO v ∨ v = .tup [.non] ∨ v = .tup [.tup []] ∨ v = .lst [] ∨ v = .lst [.str "a"] := by
    unfold oddL at hv
    simp only [List.mem_cons, List.not_mem_nil, or_false] at hv
    rcases hv with rfl | rfl | rfl | rfl | rfl | rfl | rfl | rfl | rfl | rfl | rfl | rfl | rfl | rfl | rfl <;>
      first
      | exact .inl trivial
      | exact .inl (show _ ≤ 100 by decide)
      | exact .inr (.inl rfl)
      | exact .inr (.inr (.inl rfl))
      | exact .inr (.inr (.inr (.inl rfl)))
      | exact .inr (.inr (.inr (.inr rfl)))
  rcases e with e | rfl | rfl | rfl | rfl
  · exact .flat e _
  · exact .inr ⟨_, .inl rfl, by decide, fun x hx => by rw [List.mem_singleton.mp hx]; exact .flat (d := .non) trivial _⟩
  · exact .inr ⟨_, .inl rfl, by decide, fun x hx => by rw [List.mem_singleton.mp hx]; exact .inr ⟨_, .inl rfl, by decide, fun x hx => by simp at hx⟩⟩
  · exact .inr ⟨_, .inr rfl, by decide, fun x hx => by simp at hx⟩
  · exact .inr ⟨_, .inr rfl, by decide, fun x hx => by rw [List.mem_singleton.mp hx]; exact .flat (show _ ≤ 100 by decide) _⟩
theorem cutD_mem {xs : List Dat} {lo hi : Option Int} {x : Dat} (h : x ∈ cutD xs lo hi) : x ∈ xs := List.mem_of_mem_drop (List.mem_of_mem_take h)
/-- a row bent: a tuple or a list of its members, some left out, twice or odd -/
theorem cutD_len (xs : List Dat) (lo hi : Option Int) : (cutD xs lo hi).length ≤ xs.length := by
  unfold cutD
  rw [List.length_take, List.length_drop]
  omega
def spRow : DSp := fun ds n Q _ => ∃ xs : List Dat, ds = [.pot, .tup xs] ∧ n < 900000 ∧ 0 < xs.length ∧ xs.length ≤ 500 ∧ ∀ ys m, n ≤ m → m ≤ n + 3 → (∀ y ∈ ys, y ∈ xs ∨ y ∈ oddL) → ys.length ≤ 2 * xs.length + 1 → Q (.tup ys) m ∧ Q (.lst ys) m
end
end Aim

namespace Aim
open PySem PySem.Spec PyProof.Rows L2
open LamX (TabB Tabs CodeO)
open Stt (cnt sto)
/-! ### try: one statement whose error leaves the names as they were / except E as n: v = n -/
section
variable {S : Type} [Stt S] {K : PySem.W.Frag} {TT : List (Addr × Str)}
/-- like LS, but errors are told with the names -/
def LSW (K : PySem.W.Frag) (TT : List (Addr × Str)) (g : GDS S) : WX → TS := fun W D σ H => ∃ ρ n P, Rel K ρ n σ H ∧ g P ρ n ∧ Tabs TT H ∧ (∀ ρ m σ H', P.nx ρ m → Fra K TT n H m H' → Rel K ρ m σ H' → D.nx σ H') ∧
  ∀ (C : Addr) (d : Dat) (m : S) (dd : Addr) (v : V) (H' : Hp), P.ex C d m → Fre K TT n H m H' → H' dd = some (.xd [("value", v)]) → Sees K m H' v d → W (.ref C) (some dd) σ H'
/-- .. AE: the class caught; jv: the slot of v, je: of n -/
def dTry (K : PySem.W.Frag) (AE : Addr) (jv je : Nat) (g : GDS S) : GDS S := fun P ρ n => g { nx := P.nx, rt := fun _ _ => False, ex := fun C d m => PySem.W.exmOne K (.ref C) (.ref AE) = some true ∧ P.nx ((ρ.set jv (.val (.exc C d))).set je .no) m } ρ n
variable {X : Cx} {E : XK} {x n v : Str} {AE : Addr} {jv je : Nat} {body : List Stmt} {np p1 p2 p3 pos pos' : Pos} {g : GDS S}
theorem ds_try (hs : X.stack = X.env :: X.outer) (hf : X.env.frame = some X.env.locals) (hex : X.ex = []) (hN : X.N.Nodup) (hi : X.N[je]? = some n) (hln : X.env.kindOf n = some .local) (hjv : X.N[jv]? = some v) (hlv : X.env.scope.names.lookup v = some .local) (hln2 : X.env.scope.names.lookup n = some .local) (ne : je ≠ jv)
    (hc : Gl X x) (hmx : X.mg x = some (.ref AE)) (hxd : (x == ("__debug__" : Str)) = false) (hnd : (n == ("__debug__" : Str)) = false) (hnc : (n == ("__classdict__" : Str)) = false)
    (hb : ∀ (W : WX) (pn : List (Addr × Obj)) (xe : Value → Shared → Prop), Takes (X.tr pn xe) W → PSs (X.tr pn xe) body (LSW X.K TT g W)) :
    PS X (.Try body [.ExceptHandler (some (.Name x np)) (some n) [.Assign [.Name v p1] (.Name n p2) p3] pos'] [] [] pos) (LS X.K TT E (dTry X.K AE jv je g)) := by
  have main := ps_try_keep (X := X) (x := x) (n := n) (c := .ref AE) (i := je) (Wout := fun _ _ _ _ => False) (pos := pos) (np := np) (pos' := pos') (tb := LSW X.K TT g) (ts := fun _ => tAsg (tVar je) (gName jv)) (body := body) (b0 := .Assign [.Name v p1] (.Name n p2) p3) (suite := [])
    hs hf hex hN hi hln hc hmx hxd LamX.takes0 (fun W pn xe tk _ => hb W pn xe tk) (fun a oe pn => pss_one (ps_asg (pe_var (i := je) hi (.inl hln2) hnd hnc) (pg_name (i := jv) hN hjv (.inl hlv) (.inr hlv))))
  refine main.imp fun D σ H ⟨ρ, m0, P, rl, q, k⟩ => ⟨ρ, m0, _, rl, q, k.ex.tab, k.nx, fun C d m dd u H' z e hd s => ⟨true, z.1, fun _ a ha hl => ?_, fun z => nomatch z⟩⟩
  have z := z.2
  have hl1 : je < σ.length := by
    rw [hl]
    exact (List.getElem?_eq_some_iff.mp hi).1
  refine ⟨.ref a, by rw [List.getElem?_set_self hl1], ?_⟩
  show D.nx (((σ.set je (some (.ref a))).set jv (some (.ref a))).set je none) (upd H' a (XcV (.ref C) (some dd) a))
  rw [List.set_comm _ _ ne, List.set_set]
  have gr := Grow.new (o := XcV (.ref C) (some dd) a) ha
  exact k.nx _ m _ _ z (e.toFra.trans (.grow gr)) ((((rl.fre e).grow gr).put (.exc upd_same (gr _ _ hd) (s.grow gr))).drop)
end
/-! ### what may be raised in it -/
section
variable {X : Cx} {k : Nat} {f : Addr} {sp : Sp} {W : WX}
/-- the callee runs; its error is asked of these names -/
theorem run_fnRW {pins : List (Addr × Obj)} {σ : L2.St} {H : Hp} {s : Shared} {Q : VK} {us : List Value} {vs : List V} (F : FnR X.prog X.w X.K X.mg X.base (L2.CX X.prog X.w) k f sp) (hr : Room k X.A) (tk : Takes X W) (I : Inv X pins σ H s) (r : Vals vs us) (h : sp vs H Q fun cls d H' => W cls d σ H') :
    codeAny (model X.prog X.w) X.A (.call (.ref f) ⟨us, []⟩) (fun r s' => match r with | .ok (.ret v) => EP X pins σ Q v s' | .ok _ => False | .error e => X.xe e s') s := by
  refine codeAny_mono (F X.A X.stack s H us vs Q _ hr I.env0 r h) fun r s' hq => ?_
  match r, hq with
  | .error e, hq => exact tk e s' (XE.of_call I (fun _ _ _ z => z) hq)
  | .ok (.ret u), hq => exact I.after hq
end
/-! ### name op= e -/
section
variable {S : Type} [Stt S] {X : Cx} {TT : List (Addr × Str)} {k j i : Nat} {C f : Addr} {sp : GDSp S} {fe fo fi : GDE S} {st : Stmt} {W : WX} {pos : Pos}
def rAugW (C : Addr) (sp : Sp) (W : WX) : L2.St → TIp := fun σ x y H Q => ∃ a, x = .ref a ∧ IsAt H a C ∧ sp [.ref a, y] H Q fun cls d H' => W cls d σ H'
def PIpW (X : Cx) (op : Operator) (t : L2.St → TIp) : Prop :=
  ∀ (pins : List (Addr × Obj)) (s : Shared) (σ : L2.St) (H : Hp) (x y : V) (v u : Value) (Q : VK), Inv X pins σ H s → RelV x v → RelV y u → t σ x y H Q →
    wpAny (model X.prog X.w) X.A (inplaceOp op v u) (EP X pins σ Q) X.xe s
theorem ip_objW {op : Operator} {sp : Sp} (d : Meth X.K C (dunderI op.info.2) f) (hc : PySem.W.selfFirst X.K C = true) (F : FnR X.prog X.w X.K X.mg X.base (L2.CX X.prog X.w) k f sp) (hr : Room k X.A) (tk : Takes X W) : PIpW X op (rAugW C sp W) := by
  intro pins s σ H x y v u Q I rx ry ⟨a, ex, ha, q⟩
  subst ex
  obtain rfl : v = Value.ref a := rx
  obtain ⟨m, fr⟩ := inv_fr I
  obtain ⟨ox, od, J⟩ := ha.inst I
  exact PySem.W.ksp_inplace fr I.ok.mod.kin J hc d.at_ d.fn (wpAny_mono (wpAny_call (run_fnRW F hr tk I (us := [Value.ref a, u]) (vs := [V.ref a, y]) (.cons (show RelV (V.ref a) (Value.ref a) from rfl) (.cons ry .nil)) q)) (fun r s' z => by
    obtain ⟨w, H', I', rw', q'⟩ := z
    exact back_of (rel_not rw') ⟨w, H', I', rw', q'⟩) fun _ _ e => e)
def tAugW (i : Nat) (te : TE) (ti : L2.St → TIp) : TS := fun D σ H => ∃ x, σ[i]? = some (some x) ∧ te σ H fun y H1 => ti σ x y H1 fun z H2 => D.nx (σ.set i (some z)) H2
theorem ps_augW {i : Nat} {x : Str} {e : Expr} {te : TE} {op : Operator} {ti : L2.St → TIp} {pos' : Pos} (hN : X.N.Nodup) (hi : X.N[i]? = some x) (hx : Loc X.env.scope x) (he : PE X e te) (ho : PIpW X op ti) (hf : X.fn x = true ∨ X.env.scope.names.lookup x = some .local := by first | exact .inl rfl | exact .inr rfl | assumption) :
    PS X (.AugAssign (.Name x pos') op e pos) (tAugW i te ti) := by
  refine ⟨fun pins s σ H D I h => ?_⟩
  obtain ⟨v, e1, h⟩ := h
  obtain ⟨m, hn, hl⟩ := I.loc
  have vis : Vis X.env.scope x := by rcases hx with k | k; exact .inl k; exact .inr (.inl k)
  obtain ⟨u, r, l⟩ := hl i x v hi e1 vis
  refine wpAny_AugAssign_Name ?_
  have go : wpAny (model X.prog X.w) X.A (eval e X.env) (fun w s₂ => wpAny (model X.prog X.w) X.A (inplaceOp op u w) (fun r s₃ => wpAny (model X.prog X.w) X.A (storeName X.env x r) (fun _ => SP X pins D .next) X.xe s₃) X.xe s₂) X.xe s := by
    refine thn (he.run pins s σ H _ I h) fun w s1 ⟨y, H1, I1, r1, q1⟩ => ?_
    refine thn (ho pins s1 σ H1 v y u w _ I1 r r1 q1) fun z s2 ⟨zv, H2, I2, r2, q2⟩ => ?_
    exact store_ok I2 hN hi hx r2 (fun s3 I3 => ⟨_, H2, I3, q2⟩) hf
  rcases l with ⟨hk, hm⟩ | ⟨hk, c, hc, hcell⟩
  · exact wpAny_loadName_local I.ok.kind hk hn hm go
  · rcases hk with hk | hk
    · exact wpAny_loadName_cell I.ok.kind hk hc hcell go
    · rcases hx with k | k
      · have : X.env.scope.names.lookup x = some .free := hk
        rw [k] at this; cases this
      · have : X.env.scope.names.lookup x = some .free := hk
        rw [k] at this; cases this
def dAugW (i : Nat) (C : Addr) (sp : GDSp S) (fe : GDE S) : GDS S := fun P ρ n => slV (slAt ρ i) fun o => fe ρ n (fun e m => instD C m o ∧ sp [o, e] m (fun d j => P.nx (ρ.set i (.val d)) j) P.ex) fun _ _ _ => False
theorem dsw_aug {op : Operator} (M : MdD X.prog X.w X.K X.mg X.base TT k C (dunderI op.info.2) sp) (hc : PySem.W.selfFirst X.K C = true) (hr : Room j X.A) (hk : k ≤ j) (tk : Takes X W) (h : PIpW X op (rAugW C (spO (LSp X.K TT sp)) W) → PS X st (tAugW i (LE X.K TT E0 fe) (rAugW C (spO (LSp X.K TT sp)) W))) : PSs X [st] (LSW X.K TT (dAugW i C sp fe) W) := by
  obtain ⟨f, F, Mt⟩ := M.ex
  refine pss_one ((h (ip_objW Mt hc F (hr.mono hk) tk)).imp fun D σ H ⟨ρ, n, P, rl, q, tb, kn, kx⟩ => ?_)
  unfold dAugW at q
  cases e : slAt ρ i with
  | val o =>
    rw [e] at q
    have hρ := slAt_of e (by simp)
    obtain ⟨v, hσ, sv⟩ := rl.var hρ
    refine ⟨v, hσ, ρ, n, _, _, rl, q, fun e m y H1 z e1 s1 => ?_, ⟨tb, fun _ _ _ _ _ _ z => z.elim⟩⟩
    obtain ⟨hd, z⟩ := z
    have sv := sv.mono e1.toFra
    obtain ⟨a, rfl, ha⟩ := instD_at hd sv (e1.st rl.st)
    have x : ExE X.K TT (fun cls d H' => W cls d σ H') n H P.ex := ⟨tb, kx⟩
    exact ⟨a, rfl, ha, spO_at x rl.st e1 (.cons sv (.cons s1 .nil)) z fun d j v' H' p g t => kn _ j _ H' p g.toFra ((rl.fre g).put t)⟩
  | _ => rw [e] at q; exact q.elim
end
/-! ### o[i] = e -/
section
variable {S : Type} [Stt S] {X : Cx} {TT : List (Addr × Str)} {k j : Nat} {C f : Addr} {sp : GDSp S} {fe fo fi : GDE S} {st : Stmt} {W : WX} {pos : Pos}
def rSetW (C : Addr) (sp : Sp) (W : WX) : L2.St → TSet := fun σ o i v H Q => ∃ a, o = .ref a ∧ IsAt H a C ∧ sp [.ref a, i, v] H (fun _ H' => Q H') fun cls d H' => W cls d σ H'
def PSetW (X : Cx) (t : L2.St → TSet) : Prop :=
  ∀ (pins : List (Addr × Obj)) (s : Shared) (σ : L2.St) (H : Hp) (o i v : V) (ov iv u : Value) (Q : Hp → Prop), Inv X pins σ H s → RelV o ov → RelV i iv → RelV v u → t σ o i v H Q →
    wpAny (model X.prog X.w) X.A (setItem ov iv u) (fun _ s' => ∃ H', Inv X pins σ H' s' ∧ Q H') X.xe s
theorem set_objW {sp : Sp} (d : Meth X.K C "__setitem__" f) (nq : PySem.W.noSeq X.K C = true) (F : FnR X.prog X.w X.K X.mg X.base (L2.CX X.prog X.w) k f sp) (hr : Room k X.A) (tk : Takes X W) : PSetW X (rSetW C sp W) := by
  intro pins s σ H o i v ov iv u Q I r1 r2 r3 ⟨a, eo, ha, q⟩
  subst eo
  obtain rfl : ov = Value.ref a := r1
  obtain ⟨m, fr⟩ := inv_fr I
  obtain ⟨ox, od, J⟩ := ha.inst I
  refine PySem.W.ksp_setItem fr I.ok.mod.kin J nq d.at_ d.fn (wpAny_mono (wpAny_call (run_fnRW F hr tk I (us := [Value.ref a, iv, u]) (vs := [V.ref a, i, v]) (.cons (show RelV (V.ref a) (Value.ref a) from rfl) (.cons r2 (.cons r3 .nil))) q)) (fun r s' z => ?_) fun _ _ e => e)
  obtain ⟨w, H', I', _, q'⟩ := z
  exact ⟨H', I', q'⟩
def gSubW (to ti : TE) (t : L2.St → TSet) : TG := fun v σ H Q => to σ H fun o H1 => ti σ H1 fun i H2 => t σ o i v H2 fun H3 => Q σ H3
theorem pg_subW {o i : Expr} {to ti : TE} {t : L2.St → TSet} (ho : PE X o to) (hi : PE X i ti) (hs : PSetW X t)
    (ha : ∀ v, assign (.Subscript o i pos) X.env v = (do
      let ov ← holding [v] (eval o X.env)
      let iv ← holding [v, ov] (eval i X.env)
      standAt pos
      holding [v, ov, iv] (setItem ov iv v)
      release [v, ov, iv] []) := by intro _; rfl) : PG X (.Subscript o i pos) (gSubW to ti t) := by
  refine ⟨fun pins s σ H v u Q I r h => ?_⟩
  rw [ha]
  refine wpAny_bind (wpAny_holding (thn (ho.run pins s σ H _ I h) fun ov s1 ⟨x, H1, I1, r1, q1⟩ => ?_))
  refine wpAny_bind (wpAny_holding (thn (hi.run pins s1 σ H1 _ I1 q1) fun iv s2 ⟨y, H2, I2, r2, q2⟩ => ?_))
  refine wpAny_bind (wpAny_standAt (wpAny_bind (wpAny_holding (thn (hs pins s2 σ H2 x y v ov iv u _ I2 r1 r2 r q2) fun _ s3 ⟨H3, I3, q3⟩ => ?_))))
  exact wpAny_release ⟨σ, H3, I3, q3⟩
def dSetW (C : Addr) (sp : GDSp S) (fe fo fi : GDE S) : GDS S := fun P ρ n => fe ρ n (fun v m => fo ρ m (fun o k => fi ρ k (fun i j => instD C j o ∧ sp [o, i, v] j (fun _ j' => P.nx ρ j') P.ex) fun _ _ _ => False) fun _ _ _ => False) fun _ _ _ => False
theorem dsw_set (M : MdD X.prog X.w X.K X.mg X.base TT k C "__setitem__" sp) (nq : PySem.W.noSeq X.K C = true) (hr : Room j X.A) (hk : k ≤ j) (tk : Takes X W) (h : PSetW X (rSetW C (spO (LSp X.K TT sp)) W) → PS X st (tAsg (LE X.K TT E0 fe) (gSubW (LE X.K TT E0 fo) (LE X.K TT E0 fi) (rSetW C (spO (LSp X.K TT sp)) W)))) : PSs X [st] (LSW X.K TT (dSetW C sp fe fo fi) W) := by
  obtain ⟨f, F, Mt⟩ := M.ex
  refine pss_one ((h (set_objW Mt nq F (hr.mono hk) tk)).imp fun D σ H ⟨ρ, n, P, rl, q, tb, kn, kx⟩ => ?_)
  have no : ∀ {m : S} {H1 : Hp}, Tabs TT H1 → ExE X.K TT E0 m H1 (fun _ _ _ => False) := fun t => ⟨t, fun _ _ _ _ _ _ z => z.elim⟩
  refine ⟨ρ, n, _, _, rl, q, fun v m x H1 q1 e1 s1 => ⟨ρ, m, _, _, rl.fre e1, q1, fun o k2 y H2 q2 e2 s2 => ⟨ρ, k2, _, _, (rl.fre e1).fre e2, q2, fun i j z H3 q3 e3 s3 => ?_, no ((e1.trans e2).tab tb)⟩, no (e1.tab tb)⟩, no tb⟩
  obtain ⟨hd, q⟩ := q3
  have ee := (e1.trans e2).trans e3
  obtain ⟨a, rfl, ha⟩ := instD_at hd (s2.mono e3.toFra) (ee.st rl.st)
  have x : ExE X.K TT (fun cls d H' => W cls d σ H') n H P.ex := ⟨tb, kx⟩
  exact ⟨a, rfl, ha, spO_at x rl.st ee (.cons (s2.mono e3.toFra) (.cons s3 (.cons (s1.mono (e2.trans e3).toFra) .nil))) q fun d j' v' H' p g t => kn ρ j' σ H' p g.toFra (rl.fre g)⟩
end
end Aim

namespace Aim
open PySem PySem.Spec PyProof.Rows L2
open PySem.W (Looks)
section
variable {prog : Program} {w : World} {A : Around} {E : Value → Shared → Prop} {s : Shared}
theorem int_add_ref {i : Int} {t : Tok} {x : Addr} {o : Obj} {Q : Value → Shared → Prop} (hx : s.heap.get? x = some o) (hp : o.data = .plain) (q : Q .notImplemented s) : wpAny (model prog w) A (call (.builtin "int.__add__") [.int i t, .ref x]) Q E s := by
  refine wpAny_call (codeAny_call_builtin F.slot_int_add.plain F.entry_int_add (F.slot_int_add.check _ _ _ _ _ _ _ _ (typeIs_int s i t) (F.args_int_add_2 _ _) ?_))
  obtain ⟨hp', g, d, tk, os⟩ := s
  wp_walk
  rw [hp]
  wp_walk
  exact q
theorem bool_add_ref {i : Bool} {x : Addr} {o : Obj} {Q : Value → Shared → Prop} (hx : s.heap.get? x = some o) (hp : o.data = .plain) (q : Q .notImplemented s) : wpAny (model prog w) A (call (.builtin "int.__add__") [.bool i, .ref x]) Q E s := by
  refine wpAny_call (codeAny_call_builtin F.slot_bool_add.plain F.entry_int_add (F.slot_bool_add.check _ _ _ _ _ _ _ _ (rfl : s.TypeIs (.bool i) "bool") (F.args_int_add_2 _ _) ?_))
  obtain ⟨hp', g, d, tk, os⟩ := s
  wp_walk
  rw [hp]
  wp_walk
  exact q
theorem int_declines {i : Int} {t : Tok} {x : Addr} {o : Obj} {Q : Option Value → Shared → Prop} (hx : s.heap.get? x = some o) (hp : o.data = .plain) (q : Q none s) : wpAny (model prog w) A (tryMethod (.int i t) (PySem.dunder "add") (.ref x)) Q E s :=
  @PySem.wpAny_tryMethod_declines (model prog w) A E s (.int i t) (.ref x) "int" (PySem.dunder "add") "int.__add__" Q rfl PySem.F.slot_int_add (int_add_ref (Q := fun v s' => v = .notImplemented ∧ Q none s') hx hp (And.intro rfl q))
theorem bool_declines {i : Bool} {x : Addr} {o : Obj} {Q : Option Value → Shared → Prop} (hx : s.heap.get? x = some o) (hp : o.data = .plain) (q : Q none s) : wpAny (model prog w) A (tryMethod (.bool i) (PySem.dunder "add") (.ref x)) Q E s :=
  @PySem.wpAny_tryMethod_declines (model prog w) A E s (.bool i) (.ref x) "bool" (PySem.dunder "add") "int.__add__" Q rfl PySem.F.slot_bool_add (bool_add_ref (Q := fun v s' => v = .notImplemented ∧ Q none s') hx hp (And.intro rfl q))
/-- b + x, x of one's own class with __radd__, b of a built-in type T that does not know x -/
theorem radd_own {b : Value} {T : String} {K : PySem.W.Frag} {x C f : Addr} {ox : Obj} {od : Option Obj} {cd : ClassData} {rest : List Value} {left : Bool} {Q : Value → Shared → Prop} (X : K.In s.heap) (J : PySem.W.InstAt s.heap x ox C od) (LT : Looks (model prog w) s.heap (typeOf b) (.type T))
    (hcd : PySem.W.clsIn K C = some cd) (hm : cd.mro = .ref C :: rest) (ha : PySem.W.findIn K (.ref C) (PySem.dunder "add") = some (some (.ref f))) {g : Addr} (hs : PySem.W.findIn K (.ref C) (dunderR "add") = some (some (.ref g))) (hg : PySem.W.isFn K (.ref g) = true)
    (hl : Looks (model prog w) s.heap (fillsNumberSlot (.type T) "add") left) (hsub : PySem.W.subIn K (.ref C) (.type T) = some false)
    (ht : left = true → ∀ {Q' : Option Value → Shared → Prop}, Q' none s → wpAny (model prog w) A (tryMethod b (PySem.dunder "add") (.ref x)) Q' E s)
    (h : wpAny (model prog w) A (call (.ref g) [.ref x, b]) (PySem.W.CmpBack Q) E s) : wpAny (model prog w) A (binaryOp .Add b (.ref x)) Q E s := by
  have one := PySem.W.ksp_try (b := b) X J hs hg h
  obtain ⟨hh, gn, dr, tk, os⟩ := s
  have L1 : Looks (model prog w) hh (typeOf (.ref x)) (.ref C) := J.type
  have L2 : Looks (model prog w) hh (typeOf b) (.type T) := LT
  have L3 : Looks (model prog w) hh (fillsNumberSlot (.ref C) "add") true := PySem.W.fills_K X hcd hm ha
  have L4 : Looks (model prog w) hh (fillsNumberSlot (.type T) "add") left := hl
  have L5 : Looks (model prog w) hh (isSubtype (.ref C) (.type T)) false := PySem.W.looks_subIn X hsub
  have L7 : Looks (model prog w) hh (numberSlotInPython (.type T) "add") false := Looks.of_pure rfl
  have ne : (Value.type T == Value.ref C) = false := Bool.eq_false_iff.mpr fun q => by cases beq_iff_eq.mp q
  simp only [binaryOp, Operator.info]
  refine wpAny_holding (wpAny_bind ?_)
  unfold binaryOp1
  refine wpAny_bind (L2.at (wpAny_bind (L1.at (wpAny_bind (L4.at ?_)))))
  simp only [ne, Bool.false_eq_true, if_false]
  cases left with
  | false =>
    ksp_lk
    refine wpAny_mono one (fun r s' hr' => ?_) fun _ _ e => e
    obtain ⟨v, rfl, hq⟩ := hr'
    ksp_lk
    exact hq
  | true =>
    ksp_lk
    refine ht rfl ?_
    ksp_lk
    refine wpAny_mono one (fun r s' hr' => ?_) fun _ _ e => e
    obtain ⟨v, rfl, hq⟩ := hr'
    ksp_lk
    exact hq
/-- x + b, x of one's own class with __add__ and __radd__, b of a built-in type T -/
theorem add_own {b : Value} {T : String} {K : PySem.W.Frag} {x C f g : Addr} {ox : Obj} {od : Option Obj} {cd : ClassData} {rest : List Value} {fo ro : Option Value} {Q : Value → Shared → Prop} (X : K.In s.heap) (J : PySem.W.InstAt s.heap x ox C od) (LT : Looks (model prog w) s.heap (typeOf b) (.type T))
    (hcd : PySem.W.clsIn K C = some cd) (hm : cd.mro = .ref C :: rest) (ha : PySem.W.findIn K (.ref C) (PySem.dunder "add") = some (some (.ref f))) (hf : PySem.W.isFn K (.ref f) = true) (hr : PySem.W.findIn K (.ref C) (dunderR "add") = some (some (.ref g)))
    (h1 : PySem.W.findIn K (.type T) (PySem.dunder "add") = some fo) (h2 : PySem.W.findIn K (.type T) (dunderR "add") = some ro) (hsub : PySem.W.subIn K (.type T) (.ref C) = some false)
    (h : wpAny (model prog w) A (call (.ref f) [.ref x, b]) (PySem.W.CmpBack Q) E s) : wpAny (model prog w) A (binaryOp .Add (.ref x) b) Q E s := by
  have one := PySem.W.ksp_try (b := b) X J ha hf h
  obtain ⟨hh, gn, dr, tk, os⟩ := s
  have M1 : Looks (model prog w) hh (typeOf (.ref x)) (.ref C) := J.type
  have M2 : Looks (model prog w) hh (typeOf b) (.type T) := LT
  have M3 : Looks (model prog w) hh (fillsNumberSlot (.ref C) "add") true := PySem.W.fills_K X hcd hm ha
  have M4 : Looks (model prog w) hh (fillsNumberSlot (.type T) "add") ((fo.isSome && !isSeqSlot fo) || (ro.isSome && !isSeqSlot ro)) := PySem.W.ksp_fillsT X h1 h2
  have M5 : Looks (model prog w) hh (isSubtype (.type T) (.ref C)) false := PySem.W.looks_subIn X hsub
  have M6 : Looks (model prog w) hh (numberSlotInPython (.ref C) "add") true := PySem.W.ksp_inPy X ha hr (.inr ⟨g, rfl⟩)
  have M7 : Looks (model prog w) hh (numberSlotInPython (.type T) "add") false := Looks.of_pure rfl
  have M8 : Looks (model prog w) hh (typeLookup (.type T) (dunderR "add")) ro := PySem.W.looks_findIn X h2
  generalize ((fo.isSome && !isSeqSlot fo) || (ro.isSome && !isSeqSlot ro)) = side at M4
  have ne : (Value.ref C == Value.type T) = false := Bool.eq_false_iff.mpr fun q => by cases beq_iff_eq.mp q
  simp only [binaryOp, Operator.info]
  refine wpAny_holding (wpAny_bind ?_)
  unfold binaryOp1
  refine wpAny_bind (M1.at (wpAny_bind (M2.at (wpAny_bind (M3.at ?_)))))
  simp only [ne, Bool.false_eq_true, if_false]
  cases side <;>
    (ksp_lk
     refine wpAny_mono one (fun r s' hr' => ?_) fun _ _ e => e
     obtain ⟨v, rfl, hq⟩ := hr'
     ksp_lk
     exact hq)
end
/-! ### the two as rules; behind an error the slots are known -/
/-- what the class and the built-in types say of + -/
structure AddT (K : PySem.W.Frag) (C f g : Addr) : Prop where
  sf : PySem.W.selfFirst K C = true
  a : PySem.W.findIn K (.ref C) (PySem.dunder "add") = some (some (.ref f))
  fa : PySem.W.isFn K (.ref f) = true
  r : PySem.W.findIn K (.ref C) (dunderR "add") = some (some (.ref g))
  fr : PySem.W.isFn K (.ref g) = true
  t : ∀ d : PyData, ∃ fo ro, PySem.W.findIn K (.type (tyD d)) (PySem.dunder "add") = some fo ∧ PySem.W.findIn K (.type (tyD d)) (dunderR "add") = some ro ∧ PySem.W.subIn K (.type (tyD d)) (.ref C) = some false ∧ PySem.W.subIn K (.ref C) (.type (tyD d)) = some false
  n : ∃ fo ro, PySem.W.findIn K (.type "NoneType") (PySem.dunder "add") = some fo ∧ PySem.W.findIn K (.type "NoneType") (dunderR "add") = some ro ∧ ((fo.isSome && !isSeqSlot fo) || (ro.isSome && !isSeqSlot ro)) = false
  d : ∃ fo ro, PySem.W.findIn K (.type "dict") (PySem.dunder "add") = some fo ∧ PySem.W.findIn K (.type "dict") (dunderR "add") = some ro ∧ ((fo.isSome && !isSeqSlot fo) || (ro.isSome && !isSeqSlot ro)) = false
/-- e + e2, the object left; right -/
def tAddL (K : PySem.W.Frag) (C : Addr) (sp : Sp) (W : WX) (ta tb : TE) : TE := fun σ H Q => ta σ H fun x H1 => tb σ H1 fun y H2 => ∃ (a dx : Addr) (fs : List (Str × V)) (d : PyData), x = .ref a ∧ H2 a = some (.ins C dx fs) ∧ DD K H2 y d ∧ sp [.ref a, y] H2 Q (fun cls e H' => W cls e σ H')
def tAddR (K : PySem.W.Frag) (C : Addr) (sp : Sp) (W : WX) (ta tb : TE) : TE := fun σ H Q => ta σ H fun x H1 => tb σ H1 fun y H2 => ∃ (a dx : Addr) (fs : List (Str × V)) (d : PyData), y = .ref a ∧ H2 a = some (.ins C dx fs) ∧ DD K H2 x d ∧ (isD "str" d = false ∧ isD "tuple" d = false ∧ isD "list" d = false) ∧ sp [.ref a, x] H2 Q (fun cls e H' => W cls e σ H')
section
variable {X : Cx} {k j : Nat} {G : Bool} {C f g : Addr} {sp : Sp} {W : WX} {a b : Expr} {ta tb : TE} {pos : Pos}
/-- the callee runs; what it lets out is asked of this very state -/
theorem run_at {pins : List (Addr × Obj)} {σ : L2.St} {H : Hp} {s : Shared} {Q : VK} {f : Addr} {fd : FuncData} {ps : List Str} {us : List Value} {vs : List V} (tk : Takes X W) (F : Rn X.prog X.w X.K X.mg X.base G k f fd ps sp) (hr : Room k X.A) (hg : G = true → X.A.guards = some []) (hb : L2.Binds X.K fd ps [])
    (I : Inv X pins σ H s) (r : Vals vs us) (h : sp vs H Q fun cls e H' => W cls e σ H') : wpAny (model X.prog X.w) X.A (call (.ref f) us) (EP X pins σ Q) X.xe s := by
  have hb' := hb s us I.kIn (by rw [List.append_nil, ← r.length]; exact F.len _ _ _ _ h)
  rw [List.append_nil] at hb'
  refine wpAny_call (codeAny_mono (F.run (s := s) (args := ⟨us, []⟩) hr hg I.env0 hb' r h) fun y s' hq => ?_)
  match y, hq with
  | .error e, hq => exact tk e s' (XE.of_call I (fun _ _ _ z => z) hq)
  | .ok (.ret u), hq => exact I.after hq
theorem plain_of (I : Inv X pins σ H s) {x dx : Addr} {fs : List (Str × V)} (e : H x = some (.ins C dx fs)) : ∃ ox od, PySem.W.InstAt s.heap x ox C od ∧ s.heap.get? x = some ox ∧ ox.data = .plain := by
  obtain ⟨mA, O, _, _, _, _⟩ := ins_get I.hok e
  obtain ⟨od, J, _⟩ := O.look
  exact ⟨_, _, J, J.1, rfl⟩
theorem pe_addL (tk : Takes X W) (T : AddT X.K C f g) (F : ∃ fd ps, Rn X.prog X.w X.K X.mg X.base G k f fd ps sp ∧ L2.Binds X.K fd ps []) (hr : Room j X.A) (hk : k ≤ j) (hg : G = true → X.A.guards = some []) (ha : PE X a ta) (hb : PE X b tb) : PE X (.BinOp a .Add b pos) (tAddL X.K C sp W ta tb) := by
  obtain ⟨fd, ps, F, hbi⟩ := F
  refine ⟨fun pins s σ H Q I h => wpAny_BinOp (binT ha hb I h fun v u s2 x y H2 I2 rx ry q => ?_)⟩
  obtain ⟨p, dx, fs, d, ex, hp, hd, q⟩ := q
  subst ex
  obtain rfl : v = Value.ref p := rx
  obtain ⟨cd, rest, hcd, hm⟩ := PySem.W.ksp_first T.sf
  obtain ⟨ox, od, J⟩ := ins_at I2 hp
  obtain ⟨fo, ro, h1, h2, h3, _⟩ := T.t d
  refine add_own I2.kIn J (dd_type I2 hd ry) hcd hm T.a T.fa T.r h1 h2 h3 (wpAny_mono (run_at (vs := [V.ref p, y]) tk F (hr.mono hk) hg hbi I2 (.cons (show RelV (V.ref p) (Value.ref p) from rfl) (.cons ry .nil)) q) (fun r s' z => ?_) fun _ _ e => e)
  obtain ⟨w, H', I', rw', q'⟩ := z
  exact back_of (rel_not rw') ⟨w, H', I', rw', q'⟩
theorem fills_no {M : Model} {h : Heap} {K : PySem.W.Frag} {T : String} {fo ro : Option Value} (X : K.In h) (h1 : PySem.W.findIn K (.type T) (PySem.dunder "add") = some fo) (h2 : PySem.W.findIn K (.type T) (dunderR "add") = some ro) (h3 : ((fo.isSome && !isSeqSlot fo) || (ro.isSome && !isSeqSlot ro)) = false) :
    Looks M h (fillsNumberSlot (.type T) "add") false := by
  have z : Looks M h (fillsNumberSlot (.type T) "add") ((fo.isSome && !isSeqSlot fo) || (ro.isSome && !isSeqSlot ro)) := PySem.W.ksp_fillsT X h1 h2
  generalize ((fo.isSome && !isSeqSlot fo) || (ro.isSome && !isSeqSlot ro)) = side at z h3
  subst h3
  exact z
theorem pe_addR (tk : Takes X W) (T : AddT X.K C f g) (F : ∃ fd ps, Rn X.prog X.w X.K X.mg X.base G k g fd ps sp ∧ L2.Binds X.K fd ps []) (hr : Room j X.A) (hk : k ≤ j) (hg : G = true → X.A.guards = some []) (ha : PE X a ta) (hb : PE X b tb) : PE X (.BinOp a .Add b pos) (tAddR X.K C sp W ta tb) := by
  obtain ⟨fd, ps, F, hbi⟩ := F
  refine ⟨fun pins s σ H Q I h => wpAny_BinOp (binT ha hb I h fun v u s2 x y H2 I2 rx ry q => ?_)⟩
  obtain ⟨p, dx, fs, d, ey, hp, hd, hno, q⟩ := q
  subst ey
  obtain rfl : u = Value.ref p := ry
  obtain ⟨cd, rest, hcd, hm⟩ := PySem.W.ksp_first T.sf
  obtain ⟨ox, od, J, hox, hpl⟩ := plain_of I2 hp
  obtain ⟨fo, ro, h1, h2, h3, h4⟩ := T.t d
  have run : wpAny (model X.prog X.w) X.A (call (.ref g) [.ref p, v]) (PySem.W.CmpBack (EP X pins σ Q)) X.xe s2 := wpAny_mono (run_at (vs := [V.ref p, x]) tk F (hr.mono hk) hg hbi I2 (.cons (show RelV (V.ref p) (Value.ref p) from rfl) (.cons rx .nil)) q) (fun r s' z => by
    obtain ⟨w, H', I', rw', q'⟩ := z
    exact back_of (rel_not rw') ⟨w, H', I', rw', q'⟩) fun _ _ e => e
  have LT := dd_type I2 hd rx
  obtain ⟨no1, no2, no3⟩ := hno
  cases hd with
  | str => exact absurd no1 (by simp [isD])
  | tup => exact absurd no2 (by simp [isD])
  | lst => exact absurd no3 (by simp [isD])
  | int i =>
    have LT : Looks (model X.prog X.w) s2.heap (typeOf v) (.type "int") := LT
    have h4 : PySem.W.subIn X.K (.ref C) (.type "int") = some false := h4
    obtain ⟨t, ht⟩ := rx
    have dec : ∀ {Q' : Option Value → Shared → Prop}, Q' none s2 → wpAny (model X.prog X.w) X.A (tryMethod v (PySem.dunder "add") (.ref p)) Q' X.xe s2 := fun {Q'} q => by
      subst ht
      exact int_declines hox hpl q
    exact radd_own (left := true) (T := "int") I2.kIn J LT hcd hm T.a T.r T.fr (Looks.of_pure PySem.F.fills_int_add) h4 (fun _ => dec) run
  | bl i =>
    have LT : Looks (model X.prog X.w) s2.heap (typeOf v) (.type "bool") := LT
    have h4 : PySem.W.subIn X.K (.ref C) (.type "bool") = some false := h4
    have dec : ∀ {Q' : Option Value → Shared → Prop}, Q' none s2 → wpAny (model X.prog X.w) X.A (tryMethod v (PySem.dunder "add") (.ref p)) Q' X.xe s2 := fun {Q'} q => by
      obtain rfl : v = Value.bool i := rx
      exact bool_declines hox hpl q
    exact radd_own (left := true) (T := "bool") I2.kIn J LT hcd hm T.a T.r T.fr (Looks.of_pure PySem.F.fills_bool_add) h4 (fun _ => dec) run
  | non =>
    obtain ⟨fo, ro, n1, n2, n3⟩ := T.n
    have LT : Looks (model X.prog X.w) s2.heap (typeOf v) (.type "NoneType") := LT
    have h4 : PySem.W.subIn X.K (.ref C) (.type "NoneType") = some false := h4
    exact radd_own (left := false) (T := "NoneType") I2.kIn J LT hcd hm T.a T.r T.fr (fills_no I2.kIn n1 n2 n3) h4 (fun z => nomatch z) run
  | dct =>
    obtain ⟨fo, ro, n1, n2, n3⟩ := T.d
    have LT : Looks (model X.prog X.w) s2.heap (typeOf v) (.type "dict") := LT
    have h4 : PySem.W.subIn X.K (.ref C) (.type "dict") = some false := h4
    exact radd_own (left := false) (T := "dict") I2.kIn J LT hcd hm T.a T.r T.fr (fills_no I2.kIn n1 n2 n3) h4 (fun z => nomatch z) run
end
end Aim

namespace Aim
open PySem PySem.Spec PyProof.Rows L2
open LamX (TabB Tabs CodeO)
open Stt (cnt sto)
open PySem.W (Looks)
/-! ### try: x = a + b, one of them of one's own class -/
section
variable {X : Cx} {k : Nat} {f g C : Addr} {sp : Sp} {W : WX} {a b : Expr} {ta tb : TE} {pos : Pos}
def tAddWL (K : PySem.W.Frag) (C : Addr) (sp : Sp) (W : WX) (ta tb : TE) : TE := fun σ H Q => ta σ H fun x H1 => tb σ H1 fun y H2 => ∃ a, x = .ref a ∧ IsAt H2 a C ∧ RgtOk K H2 C y ∧ sp [.ref a, y] H2 Q fun cls d H' => W cls d σ H'
theorem pe_addWL (d : Meth X.K C (PySem.dunder "add") f) (hc : PySem.W.selfFirst X.K C = true) (T : BinT X.K C "add") (F : FnR X.prog X.w X.K X.mg X.base (L2.CX X.prog X.w) k f sp) (hr : Room k X.A) (tk : Takes X W) (ha : PE X a ta) (hb : PE X b tb) : PE X (.BinOp a .Add b pos) (tAddWL X.K C sp W ta tb) := by
  refine ⟨fun pins s σ H Q I h => wpAny_BinOp (binT ha hb I h fun v u s2 x y H2 I2 rx ry q => ?_)⟩
  obtain ⟨p, ex, hp, hy, q⟩ := q
  subst ex
  obtain rfl : v = Value.ref p := rx
  obtain ⟨m, fr⟩ := inv_fr I2
  obtain ⟨ox, od, J⟩ := hp.inst I2
  have run := wpAny_mono (wpAny_call (run_fnRW F hr tk I2 (us := [Value.ref p, u]) (vs := [V.ref p, y]) (.cons (show RelV (V.ref p) (Value.ref p) from rfl) (.cons ry .nil)) q)) (Q' := PySem.W.CmpBack (EP X pins σ Q)) (fun r s' z => by
    obtain ⟨w, H', I', rw', q'⟩ := z
    exact back_of (rel_not rw') ⟨w, H', I', rw', q'⟩) fun _ _ e => e
  rcases hy with ⟨b, rfl, hb⟩ | ⟨t, ht, hy⟩
  · obtain rfl : u = Value.ref b := ry
    obtain ⟨ox', od', J'⟩ := hb.inst I2
    exact PySem.W.binop_K (op := .Add) fr I2.ok.mod.kin J J'.type hc d.at_ d.fn run
  · obtain ⟨rc, h1, h2⟩ := T.rc
    obtain ⟨fo, ro, h3, h4⟩ := T.ty t ht
    exact PySem.W.aim_binL (op := .Add) fr I2.ok.mod.kin J (tyx_type I2 hy ry) hc d.at_ d.fn h1 h2 h3 h4 (T.sn t ht) run
theorem isAt_plain {pins : List (Addr × Obj)} {σ : L2.St} {H : Hp} {s : Shared} (I : Inv X pins σ H s) {x : Addr} (h : IsAt H x C) : ∃ ox od, PySem.W.InstAt s.heap x ox C od ∧ s.heap.get? x = some ox ∧ ox.data = .plain := by
  rcases h with ⟨dx, fs, h⟩ | ⟨dx, ks, xs, h1, h2⟩
  · exact plain_of I h
  · have y : s.heap.get? x = some (PySem.W.instObj C dx) := OwnS.at I.hok h1
    obtain ⟨_, ⟨o, es, ep, e, d⟩, _⟩ := OwnS.at I.hok h2
    exact ⟨_, some o, ⟨y, rfl, rfl, e⟩, y, rfl⟩
/-- what the class says of a sum it is the right part of -/
structure RadT (K : PySem.W.Frag) (C f g : Addr) : Prop where
  sf : PySem.W.selfFirst K C = true
  a : PySem.W.findIn K (.ref C) (PySem.dunder "add") = some (some (.ref f))
  r : PySem.W.findIn K (.ref C) (dunderR "add") = some (some (.ref g))
  fr : PySem.W.isFn K (.ref g) = true
  t : ∀ t ∈ (["NoneType", "bool", "int", "dict"] : List String), PySem.W.subIn K (.ref C) (.type t) = some false
def tAddWR (K : PySem.W.Frag) (C : Addr) (sp : Sp) (W : WX) (ta tb : TE) : TE := fun σ H Q => ta σ H fun x H1 => tb σ H1 fun y H2 => ∃ a, y = .ref a ∧ IsAt H2 a C ∧ (x = .non ∨ (∃ b, x = .bl b) ∨ (∃ i, x = .int i) ∨ TyX K H2 x (.type "dict")) ∧ sp [.ref a, x] H2 Q fun cls d H' => W cls d σ H'
theorem pe_addWR (T : RadT X.K C f g) (F : FnR X.prog X.w X.K X.mg X.base (L2.CX X.prog X.w) k g sp) (hr : Room k X.A) (tk : Takes X W) (ha : PE X a ta) (hb : PE X b tb) : PE X (.BinOp a .Add b pos) (tAddWR X.K C sp W ta tb) := by
  refine ⟨fun pins s σ H Q I h => wpAny_BinOp (binT ha hb I h fun v u s2 x y H2 I2 rx ry q => ?_)⟩
  obtain ⟨p, ey, hp, hx, q⟩ := q
  subst ey
  obtain rfl : u = Value.ref p := ry
  obtain ⟨cd, rest, hcd, hm⟩ := PySem.W.ksp_first T.sf
  obtain ⟨ox, od, J, hox, hpl⟩ := isAt_plain I2 hp
  have run : wpAny (model X.prog X.w) X.A (call (.ref g) [.ref p, v]) (PySem.W.CmpBack (EP X pins σ Q)) X.xe s2 := wpAny_mono (wpAny_call (run_fnRW F hr tk I2 (us := [Value.ref p, v]) (vs := [V.ref p, x]) (.cons (show RelV (V.ref p) (Value.ref p) from rfl) (.cons rx .nil)) q)) (fun r s' z => by
    obtain ⟨w, H', I', rw', q'⟩ := z
    exact back_of (rel_not rw') ⟨w, H', I', rw', q'⟩) fun _ _ e => e
  rcases hx with rfl | ⟨i, rfl⟩ | ⟨i, rfl⟩ | hx
  · obtain rfl : v = Value.none := rx
    exact radd_own (left := false) (T := "NoneType") I2.kIn J (Looks.of_pure rfl) hcd hm T.a T.r T.fr (fills_no I2.kIn (K := X.K) rfl rfl (by decide +kernel)) (T.t _ (by simp)) (fun z => nomatch z) run
  · obtain rfl : v = Value.bool i := rx
    exact radd_own (left := true) (T := "bool") I2.kIn J (Looks.of_pure rfl) hcd hm T.a T.r T.fr (Looks.of_pure PySem.F.fills_bool_add) (T.t _ (by simp)) (fun _ {Q'} q => bool_declines hox hpl q) run
  · obtain ⟨t, rfl⟩ := rx
    exact radd_own (left := true) (T := "int") I2.kIn J (Looks.of_pure rfl) hcd hm T.a T.r T.fr (Looks.of_pure PySem.F.fills_int_add) (T.t _ (by simp)) (fun _ {Q'} q => int_declines hox hpl q) run
  · exact radd_own (left := false) (T := "dict") I2.kIn J (tyx_type I2 hx rx) hcd hm T.a T.r T.fr (fills_no I2.kIn (K := X.K) rfl rfl (by decide +kernel)) (T.t _ (by simp)) (fun z => nomatch z) run
end
/-! ### by data -/
section
variable {S : Type} [Stt S] {X : Cx} {TT : List (Addr × Str)} {k j jx : Nat} {C : Addr} {sp : GDSp S} {a b : Expr} {fa fb : GDE S} {st : Stmt} {W : WX} {pos : Pos}
def dAddL (jx : Nat) (C : Addr) (sp : GDSp S) (fa fb : GDE S) : GDS S := fun P ρ n => fa ρ n (fun d m => fb ρ m (fun e k => instD C k d ∧ rgtD C k e ∧ sp [d, e] k (fun z i => P.nx (ρ.set jx (.val z)) i) P.ex) fun _ _ _ => False) fun _ _ _ => False
theorem dsw_addL (M : MdD X.prog X.w X.K X.mg X.base TT k C (PySem.dunder "add") sp) (hc : PySem.W.selfFirst X.K C = true) (T : BinT X.K C "add") (hr : Room j X.A) (hk : k ≤ j) (tk : Takes X W) (ha : PE X a (LE X.K TT E0 fa)) (hb : PE X b (LE X.K TT E0 fb))
    (h : PE X (.BinOp a .Add b pos) (tAddWL X.K C (spO (LSp X.K TT sp)) W (LE X.K TT E0 fa) (LE X.K TT E0 fb)) → PS X st (tAsg (tAddWL X.K C (spO (LSp X.K TT sp)) W (LE X.K TT E0 fa) (LE X.K TT E0 fb)) (gName jx))) : PSs X [st] (LSW X.K TT (dAddL jx C sp fa fb) W) := by
  obtain ⟨f, F, Mt⟩ := M.ex
  refine pss_one ((h (pe_addWL Mt hc T F (hr.mono hk) tk ha hb)).imp fun D σ H ⟨ρ, n, P, rl, q, tb, kn, kx⟩ => ?_)
  have no : ∀ {m : S} {H1 : Hp}, Tabs TT H1 → ExE X.K TT E0 m H1 (fun _ _ _ => False) := fun t => ⟨t, fun _ _ _ _ _ _ z => z.elim⟩
  refine ⟨ρ, n, _, _, rl, q, fun d m v H1 q1 e1 s1 => ⟨ρ, m, _, _, rl.fre e1, q1, fun e i u H2 q2 e2 s2 => ?_, no (e1.tab tb)⟩, no tb⟩
  obtain ⟨hd, hg, q⟩ := q2
  have ee := e1.trans e2
  have sv := s1.mono e2.toFra
  obtain ⟨a, rfl, ha⟩ := instD_at hd sv (ee.st rl.st)
  have x : ExE X.K TT (fun cls d H' => W cls d σ H') n H P.ex := ⟨tb, kx⟩
  exact ⟨a, rfl, ha, rgt_at hg s2 (ee.st rl.st), spO_at x rl.st ee (.cons sv (.cons s2 .nil)) q fun z i' v' H' p g t => kn _ i' _ H' p g.toFra ((rl.fre g).put t)⟩
/-- data that knows no sum with a thing of one's own class -/
def decD : Dat → Prop
  | .non => True | .bl _ => True | .int _ => True | .dct _ _ => True
  | _ => False
def dAddR (jx : Nat) (C : Addr) (sp : GDSp S) (fa fb : GDE S) : GDS S := fun P ρ n => fa ρ n (fun d m => fb ρ m (fun e k => instD C k e ∧ decD d ∧ sp [e, d] k (fun z i => P.nx (ρ.set jx (.val z)) i) P.ex) fun _ _ _ => False) fun _ _ _ => False
theorem dsw_addR (M : MdD X.prog X.w X.K X.mg X.base TT k C (dunderR "add") sp) (hc : PySem.W.selfFirst X.K C = true) (hm : ∃ f, PySem.W.findIn X.K (.ref C) (PySem.dunder "add") = some (some (.ref f))) (hs : ∀ t ∈ (["NoneType", "bool", "int", "dict"] : List String), PySem.W.subIn X.K (.ref C) (.type t) = some false) (hr : Room j X.A) (hk : k ≤ j) (tk : Takes X W) (ha : PE X a (LE X.K TT E0 fa)) (hb : PE X b (LE X.K TT E0 fb))
    (h : PE X (.BinOp a .Add b pos) (tAddWR X.K C (spO (LSp X.K TT sp)) W (LE X.K TT E0 fa) (LE X.K TT E0 fb)) → PS X st (tAsg (tAddWR X.K C (spO (LSp X.K TT sp)) W (LE X.K TT E0 fa) (LE X.K TT E0 fb)) (gName jx))) : PSs X [st] (LSW X.K TT (dAddR jx C sp fa fb) W) := by
  obtain ⟨g, F, Mt⟩ := M.ex
  obtain ⟨f, hf⟩ := hm
  refine pss_one ((h (pe_addWR ⟨hc, hf, Mt.at_, Mt.fn, hs⟩ F (hr.mono hk) tk ha hb)).imp fun D σ H ⟨ρ, n, P, rl, q, tb, kn, kx⟩ => ?_)
  have no : ∀ {m : S} {H1 : Hp}, Tabs TT H1 → ExE X.K TT E0 m H1 (fun _ _ _ => False) := fun t => ⟨t, fun _ _ _ _ _ _ z => z.elim⟩
  refine ⟨ρ, n, _, _, rl, q, fun d m v H1 q1 e1 s1 => ⟨ρ, m, _, _, rl.fre e1, q1, fun e i u H2 q2 e2 s2 => ?_, no (e1.tab tb)⟩, no tb⟩
  obtain ⟨he, hd, q⟩ := q2
  have ee := e1.trans e2
  have sv := s1.mono e2.toFra
  obtain ⟨a, rfl, ha⟩ := instD_at he s2 (ee.st rl.st)
  have x : ExE X.K TT (fun cls d H' => W cls d σ H') n H P.ex := ⟨tb, kx⟩
  refine ⟨a, rfl, ha, ?_, spO_at x rl.st ee (.cons s2 (.cons sv .nil)) q fun z i' v' H' p g t => kn _ i' _ H' p g.toFra ((rl.fre g).put t)⟩
  cases d with
  | non => exact .inl sv.non_iff
  | bl b => cases sv; exact .inr (.inl ⟨_, rfl⟩)
  | int i => exact .inr (.inr (.inl ⟨i, sv.int_iff⟩))
  | dct ks xs => exact .inr (.inr (.inr (sv.tyx rfl)))
  | _ => exact hd.elim
end
end Aim

namespace Aim
open PySem PySem.Spec PyProof.Rows L2
open LamX (TabB)
/-! ### what is caught, of several classes -/
section
variable {X : Cx} {K : PySem.W.Frag} {TT : List (Addr × Str)} {E : XK}
def gValL (ok : Addr → Prop) : Dat → (Dat → Prop) → Prop
  | .exc C' d, P => ok C' ∧ P d
  | _, _ => False
theorem de_valL {D f0 : Addr} {ok : Addr → Prop} {e : Expr} {f : DE} (c : ∀ C, ok C → AimC X.K f0 D C) (h : PE X e (tXcv X.K (LE X.K TT E f))) : PE X e (LE X.K TT E (dUn (gValL ok) f)) := h.imp fun σ H Q ⟨ρ, n, P, R, r, q, k, x⟩ => ⟨ρ, n, _, R, r, q, fun d m v H1 z e s => by
  unfold gValL at z
  split at z
  · obtain ⟨hc, z⟩ := z
    cases s with
    | exc h1 h2 h3 => exact ⟨_, _, _, _, _, _, rfl, h1, c _ hc, h2, k _ m _ H1 z e h3⟩
  · exact z.elim, x⟩
theorem caught_exc {C AE : Addr} {d : Dat} {n : Nat} {ρ : List Sl} {P : DN} {f : DE} {tg : DG} {g : DS} (hx : PySem.W.exmOne K (.ref C) (.ref AE) = some true) (hf : ∀ (Q : Dat → Nat → Prop) (R' : RX), R' C d n → f ρ n Q R') (h : tg (.exc C d) ρ fun ρ' => g P ρ' n) : dSeq (dAsg (dCaught K AE f) tg) g P ρ n := hf _ _ ⟨hx, h⟩
theorem caught_ok {AE : Addr} {n : Nat} {ρ : List Sl} {P : DN} {f : DE} {tg : DG} {g : DS} (hf : ∀ (Q : Dat → Nat → Prop) (R' : RX), (∀ d, Q d n) → f ρ n Q R') (h : tg .non ρ fun ρ' => g P ρ' n) : dSeq (dAsg (dCaught K AE f) tg) g P ρ n := hf _ _ fun _ => h
end
theorem dg_go {i : Nat} {d : Dat} {ρ : List Sl} {P : List Sl → Prop} (h : P (ρ.set i (.val d))) : dgName i d ρ P := h
theorem nx_go {g : DS} {P : DN} {ρ : List Sl} {n : Nat} {rt : Dat → Nat → Prop} {ex : RX} (h : g P ρ n) : GDN.nx (S := Nat) { nx := g P, rt := rt, ex := ex } ρ n := h
end Aim

namespace Aim
open PySem PySem.Spec PyProof.Rows L2 RZ
open LamX (TabB)
section
variable {P : Program} {w : World} {K : PySem.W.Frag} {mg : Str → Option Value} {base : Heap} {TT : List (Addr × Str)}
/-! ### values bent, weighed: any kinds, again and again -/
mutual
/-- bounds the text that repr shows, and two more -/
def wt : Dat → Nat
  | .non => 6 | .bl _ => 7 | .int _ => 60
  | .str x => 10 * x.cps.size + 4
  | .tup xs => wts xs + 5 | .lst xs => wts xs + 5
  | .dct _ _ => 12
  | _ => 0
def wts : List Dat → Nat
  | [] => 0
  | x :: xs => wt x + wts xs
end
theorem wts_append : ∀ xs ys : List Dat, wts (xs ++ ys) = wts xs + wts ys
  | [], ys => by simp [wts]
  | x :: xs, ys => by simp [wts, wts_append xs ys]; omega
theorem wts_take : ∀ (xs : List Dat) (k : Nat), wts (xs.take k) ≤ wts xs
  | [], k => by simp [wts]
  | x :: xs, 0 => by simp [wts]
  | x :: xs, k + 1 => by simp [wts]; exact wts_take xs k
theorem wts_drop : ∀ (xs : List Dat) (k : Nat), wts (xs.drop k) ≤ wts xs
  | [], k => by simp [wts]
  | x :: xs, 0 => by simp [wts]
  | x :: xs, k + 1 => by
    have := wts_drop xs k
    simp [wts]
    omega
theorem wts_rev (xs : List Dat) : wts xs.reverse = wts xs := by
  induction xs with
  | nil => rfl
  | cons x xs ih =>
    rw [List.reverse_cons, wts_append, ih]
    simp [wts]
    omega
theorem wts_split : ∀ (xs : List Dat) (k : Nat) (x : Dat), xs[k]? = some x → wts (xs.take k) + wt x + wts (xs.drop (k + 1)) = wts xs
  | [], k, x, h => by simp at h
  | y :: xs, 0, x, h => by
    simp at h
    subst h
    simp [wts]
  | y :: xs, k + 1, x, h => by
    have z := wts_split xs k x (by simpa using h)
    simp [wts]
    omega
theorem wts_cut (xs : List Dat) (lo hi : Option Int) : wts (cutD xs lo hi) ≤ wts xs := by
  unfold cutD
  exact Nat.le_trans (wts_take _ _) (wts_drop _ _)
theorem wts_mem {xs : List Dat} {x : Dat} (h : x ∈ xs) : wt x ≤ wts xs := by
  obtain ⟨k, hk, rfl⟩ := List.mem_iff_getElem.mp h
  have := wts_split xs k _ (List.getElem?_eq_getElem hk)
  omega
def bVal (I : Int → Prop) : Dat → Prop
  | .non => True | .bl _ => True
  | .int i => I i
  | .str x => StrB x
  | .dct ks xs => (ks = [] ∧ xs = []) ∨ (ks = [.inr "a"] ∧ xs = [.int 1])
  | _ => False
def BV (I : Int → Prop) (s : Nat) : Nat → Dat → Prop
  | 0, d => bVal I d
  | k + 1, d => bVal I d ∨ ∃ xs, (d = .tup xs ∨ d = .lst xs) ∧ xs.length ≤ s ∧ ∀ x ∈ xs, BV I s k x
theorem BV.val {I : Int → Prop} {s : Nat} {d : Dat} (h : bVal I d) : ∀ k, BV I s k d
  | 0 => h
  | _ + 1 => .inl h
theorem bVal.imp {I J : Int → Prop} {d : Dat} (h : bVal I d) (e : ∀ i, I i → J i) : bVal J d := by
  cases d <;> first | exact h | exact e _ h
theorem BV.imp {I J : Int → Prop} {s t : Nat} (e : ∀ i, I i → J i) (ht : s ≤ t) : ∀ {k : Nat} {d : Dat}, BV I s k d → BV J t (k + 2) d
  | 0, d, h => .val (bVal.imp h e) _
  | k + 1, d, h => by
    rcases h with h | ⟨xs, q, l, r⟩
    · exact .val (bVal.imp h e) _
    · exact .inr ⟨xs, q, by omega, fun x hx => (r x hx).imp e ht⟩
theorem BV.ty {I : Int → Prop} {s : Nat} : ∀ {k : Nat} {d : Dat}, BV I s k d → (tyK d).isSome = true
  | 0, d, h => by cases d <;> first | rfl | cases h
  | k + 1, d, h => by
    rcases h with h | ⟨xs, rfl | rfl, _⟩
    · cases d <;> first | rfl | cases h
    · rfl
    · rfl
/-- the odd integers -/
structure OddI (J : Int → Prop) : Prop where
  a : J (-1)
  b : J 10
  c : J (10 ^ 40)
theorem odd_bv {J : Int → Prop} {s k : Nat} (hJ : OddI J) (hs : 1 ≤ s) : ∀ v ∈ oddL, BV J s (k + 2) v ∧ wt v ≤ 100 := fun v hv => by
  have e : (bVal J v ∧ wt v ≤ 100) ∨ v = .tup [.non] ∨ v = .tup [.tup []] ∨ v = .lst [] ∨ v = .lst [.str "a"] := by
    unfold oddL at hv
    simp only [List.mem_cons, List.not_mem_nil, or_false] at hv
    rcases hv with rfl | rfl | rfl | rfl | rfl | rfl | rfl | rfl | rfl | rfl | rfl | rfl | rfl | rfl | rfl <;>
      first
      | exact .inl ⟨trivial, by decide⟩
      | exact .inl ⟨hJ.a, by decide⟩
      | exact .inl ⟨hJ.b, by decide⟩
      | exact .inl ⟨hJ.c, by decide⟩
      | exact .inl ⟨strB_dec (by decide +kernel), by decide⟩
      | exact .inr (.inl rfl)
      | exact .inr (.inr (.inl rfl))
      | exact .inr (.inr (.inr (.inl rfl)))
      | exact .inr (.inr (.inr (.inr rfl)))
      | exact .inl ⟨.inl ⟨rfl, rfl⟩, by decide⟩
      | exact .inl ⟨.inr ⟨rfl, rfl⟩, by decide⟩
  rcases e with e | rfl | rfl | rfl | rfl
  · exact ⟨.val e.1 _, e.2⟩
  · exact ⟨.inr ⟨_, .inl rfl, hs, fun x hx => by rw [List.mem_singleton.mp hx]; exact .val (d := .non) trivial _⟩, by decide⟩
  · exact ⟨.inr ⟨_, .inl rfl, hs, fun x hx => by rw [List.mem_singleton.mp hx]; exact .inr ⟨_, .inl rfl, Nat.zero_le _, fun x hx => by simp at hx⟩⟩, by decide⟩
  · exact ⟨.inr ⟨_, .inr rfl, Nat.zero_le _, fun x hx => by simp at hx⟩, by decide⟩
  · exact ⟨.inr ⟨_, .inr rfl, hs, fun x hx => by rw [List.mem_singleton.mp hx]; exact .val (d := .str "a") (strB_dec (by decide +kernel)) _⟩, by decide⟩
theorem odd_wt : ∀ v ∈ oddL, wt v ≤ 100 := fun v hv => (odd_bv (J := fun _ => True) (s := 1) (k := 0) ⟨trivial, trivial, trivial⟩ (by decide) v hv).2
end
theorem strB_ofString {x : String} (h : x.length ≤ sizeLine) : StrB (Str.ofString x) := by
  refine ⟨by rw [PySem.ofString_length]; exact h, ?_⟩
  rw [Str.ofString_eq_toList]
  show ((x.toList.map Char.toNat).toArray).all _ = true
  rw [Array.all_eq_true']
  intro c hc
  rw [List.mem_toArray] at hc
  obtain ⟨d, _, rfl⟩ := List.mem_map.mp hc
  rw [decide_eq_true_eq]
  have v : d.val.toNat < 0xd800 ∨ 0xdfff < d.val.toNat ∧ d.val.toNat < 0x110000 := d.valid
  show d.val.toNat < _
  omega
theorem ten50 : (10 : Nat) ^ 50 < 2 ^ 200 := by decide
theorem strI {i : Int} (h : i.natAbs < 10 ^ 50) : StrB (toString i : Str) ∧ (toString i : Str).cps.size ≤ 51 ∧ i.natAbs.log2 < 1920 := by
  have e := int_text_length_le10 (k := 50) (by decide) h
  have l : (Str.ofString (toString i)).length ≤ 51 := by
    rw [PySem.ofString_length]
    exact e
  refine ⟨strB_ofString (Nat.le_trans e (by decide +kernel)), l, ?_⟩
  by_cases z : i.natAbs = 0
  · rw [z]
    decide
  · refine Nat.lt_trans ((Nat.log2_lt z).mpr (Nat.lt_trans h ten50)) (by decide)
theorem isNm_B {z : Str} (h : isNm z) : StrB z := by
  refine ⟨by have := h.2.1; show z.cps.size ≤ _; exact Nat.le_trans this (by decide +kernel), ?_⟩
  rw [Array.all_eq_true']
  intro c hc
  have := h.2.2 c (by simpa using hc)
  unfold isLet at this
  rw [decide_eq_true_eq]
  omega
theorem cutS_lenB (x : Str) (lo hi : Option Int) : (cutS x lo hi).cps.size ≤ x.cps.size := by
  unfold cutS
  show (List.toArray _).size ≤ _
  rw [List.size_toArray, List.length_take, List.length_drop, Array.length_toList]
  omega
/-! ### what is weighed is shown in its room -/
section
variable {I : Int → Prop} {s : Nat}
def Shows (k : Nat) (d : Dat) : Prop := okR d = true ∧ (pyR d).showable = true ∧ (pyR d).depth ≤ k + 1 ∧ (pyR d).shown.length + 2 ≤ wt d
theorem val_shows (hI : ∀ i, I i → i.natAbs < 10 ^ 50) (k : Nat) : ∀ {d : Dat}, bVal I d → Shows k d
  | .non, _ => ⟨rfl, by simp [pyR, PyData.showable], by simp [pyR, PyData.depth], by show _ ≤ 6; simp only [pyR, PyData.shown]; decide⟩
  | .bl b, _ => ⟨rfl, by simp [pyR, PyData.showable], by simp [pyR, PyData.depth], by show _ ≤ 7; simp only [pyR, PyData.shown]; cases b <;> decide⟩
  | .int i, h => by
    have z := strI (hI i h)
    refine ⟨rfl, by simp only [pyR, PyData.showable]; exact decide_eq_true z.2.2, by simp [pyR, PyData.depth], ?_⟩
    simp only [pyR, PyData.shown]
    have := z.2.1
    show (toString i : Str).cps.size + 2 ≤ 60
    omega
  | .str x, h => by
    refine ⟨rfl, by simp [pyR, PyData.showable], by simp [pyR, PyData.depth], ?_⟩
    simp only [pyR, PyData.shown]
    have z := StrLaws.reprText_len x fun c hc => by
      have q := h.2
      rw [Array.all_eq_true'] at q
      have := of_decide_eq_true (q c (by simpa using hc))
      omega
    show _ ≤ 10 * x.cps.size + 4
    have e : x.length = x.cps.size := rfl
    omega
  | .dct ks xs, h => by
    rcases h with ⟨rfl, rfl⟩ | ⟨rfl, rfl⟩
    · exact ⟨rfl, by decide +kernel, by show PyData.depth _ ≤ _; simp [pyR, pyRs, PyData.depth, PyData.depthKv], by decide +kernel⟩
    · exact ⟨rfl, by decide +kernel, by simp [pyR, pyRs, PyData.depth, PyData.depthKv, keyD], by decide +kernel⟩
theorem shows_list {k : Nat} : ∀ {xs : List Dat}, (∀ x ∈ xs, Shows k x) → okRs xs = true ∧ PyData.showableAll (pyRs xs) = true ∧ PyData.depthAll (pyRs xs) ≤ k + 1 ∧ piled (PyData.shownAll (pyRs xs)) ≤ wts xs
  | [], _ => ⟨rfl, rfl, Nat.zero_le _, Nat.le_refl _⟩
  | x :: xs, h => by
    obtain ⟨a1, a2, a3, a4⟩ := h x List.mem_cons_self
    obtain ⟨b1, b2, b3, b4⟩ := shows_list fun y hy => h y (List.mem_cons_of_mem _ hy)
    refine ⟨by simp [okRs, a1, b1], by simp [pyRs, PyData.showableAll, a2, b2], ?_, ?_⟩
    · show max _ _ ≤ _
      exact Nat.max_le.mpr ⟨a3, b3⟩
    · show piled ((pyR x).shown :: PyData.shownAll (pyRs xs)) ≤ wt x + wts xs
      rw [piled_cons]
      omega
theorem BV.shows (hI : ∀ i, I i → i.natAbs < 10 ^ 50) : ∀ {k : Nat} {d : Dat}, BV I s k d → Shows k d
  | 0, _, h => val_shows hI 0 h
  | k + 1, d, h => by
    rcases h with h | ⟨xs, e, l, q⟩
    · exact val_shows hI (k + 1) h
    · obtain ⟨b1, b2, b3, b4⟩ := shows_list fun x hx => (q x hx).shows hI
      have jl : ∀ ts : List Str, (Str.join ", " ts).length ≤ piled ts := fun ts => by
        by_cases z : ts = []
        · subst z
          decide
        · have := join_length_add ts z
          omega
      have j := jl (PyData.shownAll (pyRs xs))
      rcases e with rfl | rfl
      · refine ⟨b1, b2, by show PyData.depthAll (pyRs xs) + 1 ≤ _; omega, ?_⟩
        show (tupleText (PyData.shownAll (pyRs xs))).length + 2 ≤ wts xs + 5
        unfold tupleText
        rw [strLen_append, strLen_append]
        have e1 : ((("(" : String) : Str)).length = 1 := rfl
        have e3 : ∀ b : Bool, (((if b = true then ",)" else ")" : String) : Str)).length ≤ 2 := fun b => by cases b <;> decide
        have := e3 ((PyData.shownAll (pyRs xs)).length == 1)
        omega
      · refine ⟨b1, b2, by show PyData.depthAll (pyRs xs) + 1 ≤ _; omega, ?_⟩
        show (listText (PyData.shownAll (pyRs xs))).length + 2 ≤ wts xs + 5
        rw [listText_eq_join, strLen_append, strLen_append]
        have e1 : ((("[" : String) : Str)).length = 1 := rfl
        have e2 : ((("]" : String) : Str)).length = 1 := rfl
        omega
theorem BV.showD (hI : ∀ i, I i → i.natAbs < 10 ^ 50) {k : Nat} {d : Dat} (h : BV I s k d) (hk : k ≤ 39) (hw : wt d ≤ 16000000) : ShowD d := by
  obtain ⟨h1, h2, h3, h4⟩ := h.shows hI
  have sz : sizeLine = 16777216 := by decide +kernel
  exact ⟨h1, h2, by omega, by omega⟩
end
end Aim

namespace Aim
open PySem PySem.Spec PyProof.Rows L2 RZ
open LamX (TabB)
section
variable {P : Program} {w : World} {K : PySem.W.Frag} {mg : Str → Option Value} {base : Heap} {TT : List (Addr × Str)}
/-! ### later -/
def laterR (r : Rw) : Dat → Option Rw
  | .int t => if 0 ≤ t ∧ t ≤ 6 then (match r.s with
    | none => some r
    | some i => if i + t ≤ 6 then some ⟨r.f, some (i + t), r.h, r.a⟩ else none) else none
  | _ => none
section
variable {stI : Stmt} {fI AE C C_BadTicks C_BadAhead : Addr}
def spLater (C CT : Addr) : DSp := fun ds n Q R => ∃ r d, ds = [perD C r, d] ∧ r.Ok ∧ Kd d ∧ (laterR r d = none → R CT d n) ∧ ∀ r', laterR r d = some r' → Q (perD C r') n
theorem sc_later : FnScope ["person", "ticks", "slow"] ["person", "ticks"] (defScope (top 17)) := ⟨rfl, rfl, rfl, by decide +kernel, rfl, by decide +kernel, by decide +kernel⟩
theorem ok_later {G : Bool} (F : Has K mg "later" (top 17)) (T : Blt mg) (V_Person : ClsPerson K mg C) (Z : ErrP8 P K mg stI fI AE C_BadTicks C_BadAhead) (Y : CstT K mg) (MP_Person : DfK' P w K mg base TT 3 C 2 ["hold", "ahead"] (fun ds es => ds ++ es) (spPersonD C)) (D_is_from : Df P w K mg base false 2 "is_from" (LSp K TT spIsFrom)) : Df P w K mg base G 5 "later" (LSp K TT (spLater C C_BadTicks)) := by
  refine dat_okX F (fun f fd F => F.binds (fun _ _ _ _ _ _ us hl => match us, hl with | [_, _], _ => rfl)) sc_later (fun f cdv A outer s H E hr hG => ⟨_, (dss_cons (ds_if (dt_not (dt_val (de_call D_is_from hr (by first | decide | omega) (by first | exact hG | (intro z; cases z)) rfl (passes_call (takes_of rfl rfl rfl rfl) (fun _ _ _ _ h => h)) (da_cons (de_var (pv 1)) (da_cons de_int (da_cons (de_g rfl Y.g_MOST_TICKS) da_nil)))))) (dss_one (ds_raise (ps_raise rfl (takes_of rfl rfl rfl rfl) (pmk_aim Z.ini Z.c_BadTicks T.n_super (hr.mono (by decide)) rfl Z.m_BadTicks (de_var (pv 1)))))) dss_nil)
      (dss_cons (ds_set (i := 2) sc_later.nd rfl (Or.inl rfl) (de_if (dt_isN (de_fld V_Person.cl V_Person.n_own_slow (de_var (pv 0)) rfl)) de_non (de_op op_addAny od_add (de_fld V_Person.cl V_Person.n_own_slow (de_var (pv 0)) rfl) (de_var (pv 1)))))
      (dss_cons (ds_if (PW.pt (dw_and (dt_notN (de_var (pv 2))) (dw_and1 (dt_cmp op_gt (od_IB _) (de_var (pv 2)) (de_g rfl Y.g_MOST_TICKS) (nomark _))))) (dss_one (ds_raise (ps_raise rfl (takes_of rfl rfl rfl rfl) (pmk_aim Z.ini Z.c_BadTicks T.n_super (hr.mono (by decide)) rfl Z.m_BadTicks (de_var (pv 1)))))) dss_nil)
      (dss_one (ds_ret (de_makeP MP_Person hr (by first | decide | omega) rfl V_Person.mg (passes_call (takes_of rfl rfl rfl rfl) (fun _ _ _ _ h => h)) (da_cons (de_fld V_Person.cl V_Person.n_own_fast (de_var (pv 0)) rfl) (da_cons (de_var (pv 2)) da_nil)) (dk_cons (de_fld V_Person.cl V_Person.n_own_hold (de_var (pv 0)) rfl) (dk_cons (de_fld V_Person.cl V_Person.n_own_ahead (de_var (pv 0)) rfl) dk_nil)))))))), fun ds n PP R h => ?_⟩) (fun ds n PP R h => ?_)
  · obtain ⟨r, d, rfl, hr0, kd, k1, k2⟩ := h
    refine ⟨rfl, ?_⟩
    refine ⟨d, 0, 6, rfl, kd, ?_⟩
    cases c : isFrom d 0 6 with
    | false =>
      refine k1 ?_
      cases d with
      | int t =>
        have z : (decide (0 ≤ t) && decide (t ≤ 6)) = false := c
        show (if 0 ≤ t ∧ t ≤ 6 then _ else none) = none
        rw [if_neg]
        rintro ⟨a, b⟩
        rw [decide_eq_true a, decide_eq_true b] at z
        cases z
      | _ => rfl
    | true =>
      obtain ⟨t, rfl, t0, t6⟩ : ∃ t, d = .int t ∧ 0 ≤ t ∧ t ≤ 6 := by
        cases d with
        | int t =>
          have z : (decide (0 ≤ t) && decide (t ≤ 6)) = true := c
          rw [Bool.and_eq_true, decide_eq_true_eq, decide_eq_true_eq] at z
          exact ⟨t, rfl, z⟩
        | _ => cases c
      obtain ⟨f, s, hh, a⟩ := r
      cases s with
      | none =>
        have k2 : PP (perD C ⟨f, none, hh, a⟩) n := k2 _ (by show (if 0 ≤ t ∧ t ≤ 6 then _ else none) = _; rw [if_pos ⟨t0, t6⟩])
        exact ⟨rfl, rfl, rfl, rfl, ⟨rfl, rfl⟩, ⟨f, none, hh, a⟩, rfl, hr0, k2⟩
      | some i =>
        have e : laterR ⟨f, some i, hh, a⟩ (.int t) = if i + t ≤ 6 then some ⟨f, some (i + t), hh, a⟩ else none := if_pos ⟨t0, t6⟩
        refine ⟨rfl, rfl, ?_⟩
        refine ite2 (fun c => ?_) (fun c => ?_)
        · have c : 6 < i + t := of_decide_eq_true c
          exact k1 (by rw [e, if_neg (by omega)])
        · have c : i + t ≤ 6 := by
            have z : ¬ 6 < i + t := fun z => c (decide_eq_true z)
            omega
          have o := hr0.s i rfl
          have o : f ≤ i ∧ i ≤ 6 := o
          exact ⟨rfl, rfl, rfl, ⟨rfl, rfl⟩, ⟨f, some (i + t), hh, a⟩, rfl, ⟨hr0.f, fun q hq => (by cases hq; exact ⟨by show f ≤ i + t; omega, c⟩), hr0.h, hr0.a⟩, k2 _ (by rw [e, if_pos c])⟩
  · obtain ⟨r, d, rfl, _⟩ := h
    rfl
def hasR (r : Rw) : Dat → Bool
  | .int t => decide (r.f ≤ t) && (match r.s with | none => true | some i => decide (t ≤ i))
  | _ => false
def spHasP (C : Addr) : DSp := fun ds n Q _ => ∃ r d, ds = [perD C r, d] ∧ Kd d ∧ Q (.bl (hasR r d)) n
theorem sc_Person___contains__ : FnScope ["self", "ticks"] ["self", "ticks"] (defScope (inClass (top 18) 5)) := ⟨rfl, rfl, rfl, by decide +kernel, rfl, by decide +kernel, by decide +kernel⟩
theorem ok_perHas (MD : MdH K C "__contains__" "Person.__contains__" (inClass (top 18) 5)) (V_Person : ClsPerson K mg C) (T : Blt mg) (D_is_integer : Df P w K mg base false 1 "is_integer" (LSp K TT spIsInt)) : MdD P w K mg base TT 2 C "__contains__" (spHasP C) := by
  refine dat_okM MD (fun _ _ _ _ _ _ us hl => match us, hl with | [_, _], _ => rfl) sc_Person___contains__ (fun f cdv A outer s H E hr => ⟨_, (dss_one (ds_ret (de_and (de_call D_is_integer hr (by first | decide | omega) (by first | exact hG | (intro z; cases z)) rfl passL (da_cons (de_var (pv 1)) da_nil)) (de_and (de_cmp op_le (od_IB _) (de_fld V_Person.cl V_Person.n_own_fast (de_var (pv 0)) rfl) (de_var (pv 1)) (nomark _)) (de_one (de_or (de_isN (de_fld V_Person.cl V_Person.n_own_slow (de_var (pv 0)) rfl)) (de_one (de_cmp op_le (od_IB _) (de_var (pv 1)) (de_fld V_Person.cl V_Person.n_own_slow (de_var (pv 0)) rfl) (nomark _))))))))), fun ds n PP R h => ?_⟩) (fun ds n PP R h => ?_)
  · obtain ⟨r, d, rfl, kd, k⟩ := h
    refine ⟨rfl, ?_⟩
    refine ⟨d, rfl, kd, ?_⟩
    cases d with
    | int t =>
      obtain ⟨f, s, hh, a⟩ := r
      refine ⟨rfl, ?_⟩
      refine ite2 (fun c => ?_) (fun c => ?_)
      · have c : decide (f ≤ t) = true := c
        cases s with
        | none =>
          have k : PP (.bl (decide (f ≤ t) && true)) n := k
          rw [c] at k
          exact ⟨rfl, k⟩
        | some i =>
          have k : PP (.bl (decide (f ≤ t) && decide (t ≤ i))) n := k
          rw [c] at k
          exact ⟨rfl, rfl, k⟩
      · have c : decide (f ≤ t) = false := Bool.eq_false_iff.mpr c
        have e : hasR ⟨f, s, hh, a⟩ (.int t) = false := by
          show (decide (f ≤ t) && _) = false
          rw [c]
          rfl
        rw [e] at k
        exact k
    | _ => exact k
  · obtain ⟨r, d, rfl, _⟩ := h
    rfl
theorem sc_Person___add__ : FnScope ["self", "ticks"] ["self", "ticks"] (defScope (inClass (top 18) 12)) := ⟨rfl, rfl, rfl, by decide +kernel, rfl, by decide +kernel, by decide +kernel⟩
theorem ok_perAdd (MD : MdH K C "__add__" "Person.__add__" (inClass (top 18) 12)) (V_Person : ClsPerson K mg C) (T : Blt mg) (D_later : Df P w K mg base false 5 "later" (LSp K TT (spLater C C_BadTicks))) : MdD P w K mg base TT 6 C "__add__" (spLater C C_BadTicks) := by
  refine dat_okMX MD (fun _ _ _ _ _ _ us hl => match us, hl with | [_, _], _ => rfl) sc_Person___add__ (fun f cdv A outer s H E hr => ⟨_, (dss_one (ds_ret (de_call D_later hr (by first | decide | omega) (by first | exact hG | (intro z; cases z)) rfl (passes_call (takes_of rfl rfl rfl rfl) (fun _ _ _ _ h => h)) (da_cons (de_var (pv 0)) (da_cons (de_var (pv 1)) da_nil))))), fun ds n PP R h => ?_⟩) (fun ds n PP R h => ?_)
  · obtain ⟨r, d, rfl, ok, kd, k1, k2⟩ := h
    refine ⟨rfl, ?_⟩
    exact ⟨r, d, rfl, ok, kd, k1, k2⟩
  · obtain ⟨r, d, rfl, _⟩ := h
    rfl
theorem sc_Person___radd__ : FnScope ["self", "ticks"] ["self", "ticks"] (defScope (inClass (top 18) 13)) := ⟨rfl, rfl, rfl, by decide +kernel, rfl, by decide +kernel, by decide +kernel⟩
theorem ok_perRadd (MD : MdH K C "__radd__" "Person.__radd__" (inClass (top 18) 13)) (V_Person : ClsPerson K mg C) (T : Blt mg) (D_later : Df P w K mg base false 5 "later" (LSp K TT (spLater C C_BadTicks))) : MdD P w K mg base TT 6 C "__radd__" (spLater C C_BadTicks) := by
  refine dat_okMX MD (fun _ _ _ _ _ _ us hl => match us, hl with | [_, _], _ => rfl) sc_Person___radd__ (fun f cdv A outer s H E hr => ⟨_, (dss_one (ds_ret (de_call D_later hr (by first | decide | omega) (by first | exact hG | (intro z; cases z)) rfl (passes_call (takes_of rfl rfl rfl rfl) (fun _ _ _ _ h => h)) (da_cons (de_var (pv 0)) (da_cons (de_var (pv 1)) da_nil))))), fun ds n PP R h => ?_⟩) (fun ds n PP R h => ?_)
  · obtain ⟨r, d, rfl, ok, kd, k1, k2⟩ := h
    refine ⟨rfl, ?_⟩
    exact ⟨r, d, rfl, ok, kd, k1, k2⟩
  · obtain ⟨r, d, rfl, _⟩ := h
    rfl
/-! ### the law's own -/
def rowL (r : Rw) : Dat := .lst [.int r.f, slowD r.s, .int r.h, .int r.a]
def spNumbersL (C : Addr) : DSp := fun ds n Q _ => ∃ x, ds = [perD C x] ∧ Q (rowL x) n
theorem sc__law_numbers : FnScope ["_law_person"] ["_law_person"] (defScope (top 27)) := ⟨rfl, rfl, rfl, by decide +kernel, rfl, by decide +kernel, by decide +kernel⟩
theorem ok_numbersL {G : Bool} (F : Has K mg "_law_numbers" (top 27)) (T : Blt mg) (V_Person : ClsPerson K mg C) : Df P w K mg base G 5 "_law_numbers" (LSp K TT (spNumbersL C)) := by
  refine dat_ok F (fun f fd F => F.binds (fun _ _ _ _ _ _ us hl => match us, hl with | [_], _ => rfl)) sc__law_numbers (fun f cdv A outer s H E hr hG => ⟨_, (dss_one (ds_ret (de_lst (da_cons (de_prp V_Person.p_fast V_Person.cl hr sc_Person_fast ⟨_, _, _, rfl⟩ (fun _ _ _ _ _ _ us hl => match us, hl with | [_], _ => rfl) (de_var (pv 0))) (da_cons (de_prp V_Person.p_slow V_Person.cl hr sc_Person_slow ⟨_, _, _, rfl⟩ (fun _ _ _ _ _ _ us hl => match us, hl with | [_], _ => rfl) (de_var (pv 0))) (da_cons (de_prp V_Person.p_hold V_Person.cl hr sc_Person_hold ⟨_, _, _, rfl⟩ (fun _ _ _ _ _ _ us hl => match us, hl with | [_], _ => rfl) (de_var (pv 0))) (da_cons (de_prp V_Person.p_ahead V_Person.cl hr sc_Person_ahead ⟨_, _, _, rfl⟩ (fun _ _ _ _ _ _ us hl => match us, hl with | [_], _ => rfl) (de_var (pv 0))) da_nil))))))), fun ds n PP R h => ?_⟩) (fun ds n PP R h => ?_)
  · obtain ⟨x, rfl, k⟩ := h
    refine ⟨rfl, ?_⟩
    have sz : sizeLine = 16777216 := by decide +kernel
    exact ⟨rfl, rfl, rfl, rfl, by rw [sz]; show 4 ≤ _; omega, k⟩
  · obtain ⟨x, rfl, _⟩ := h
    rfl
def spOnR (C CT : Addr) : DSp := fun ds n Q _ => ∃ r d, ds = [perD C r, d] ∧ r.Ok ∧ Kd d ∧ (laterR r d = none → Q (.tup [.non, .exc CT d]) n) ∧ ∀ r', laterR r d = some r' → Q (.tup [perD C r', .non]) n
theorem sc__law_on_the_right : FnScope ["_law_person", "_law_ticks", "error", "_law_made", "_law_caught"] ["_law_person", "_law_ticks"] (defScope (top 29)) := ⟨rfl, rfl, rfl, by decide +kernel, rfl, by decide +kernel, by decide +kernel⟩
theorem ok_on_right {AE : Addr} {G : Bool} (F : Has K mg "_law_on_the_right" (top 29)) (T : Blt mg) (HAE : mg "AimError" = some (.ref AE)) (hx : PySem.W.exmOne K (.ref C_BadTicks) (.ref AE) = some true) (V_Person : ClsPerson K mg C) (F_Person : PySem.W.selfFirst K C = true) (B_Person_add : BinT K C "add") (M_Person___add__ : MdD P w K mg base TT 6 C "__add__" (spLater C C_BadTicks)) : Df P w K mg base G 8 "_law_on_the_right" (LSp K TT (spOnR C C_BadTicks)) := by
  refine dat_ok F (fun f fd F => F.binds (fun _ _ _ _ _ _ us hl => match us, hl with | [_, _], _ => rfl)) sc__law_on_the_right (fun f cdv A outer s H E hr hG => ⟨_, (dss_cons (ds_asg (de_tup (da_cons de_non (da_cons de_non da_nil))) (dg_tup (n := 2) rfl (dgs_cons (dg_name (pg_name (i := 3) sc__law_on_the_right.nd rfl (Or.inl rfl) (Or.inl rfl))) (dgs_cons (dg_name (pg_name (i := 4) sc__law_on_the_right.nd rfl (Or.inl rfl) (Or.inl rfl))) dgs_nil)) (fun ds ρ P h => dgl_len (l := [3, 4]) h)))
      (dss_cons (ds_try (jv := 4) (je := 2) rfl rfl rfl sc__law_on_the_right.nd rfl rfl rfl rfl rfl (by decide) rfl HAE (by decide) (by decide) (by decide) (fun W pn xe tk => (dsw_addL M_Person___add__ F_Person B_Person_add hr (by first | decide | omega) tk (de_var (pv 0)) (de_var (pv 1)) (fun hq => ps_asg hq (pg_name (i := 3) sc__law_on_the_right.nd rfl (Or.inl rfl))))))
      (dss_one (ds_ret (de_tup (da_cons (de_var (pv 3)) (da_cons (de_var (pv 4)) da_nil))))))), fun ds n PP R h => ?_⟩) (fun ds n PP R h => ?_)
  · obtain ⟨r, d, rfl, ok, kd, k1, k2⟩ := h
    refine ⟨rfl, ?_⟩
    have sz : (2 : Nat) ≤ sizeLine := by
      have sz : sizeLine = 16777216 := by decide +kernel
      omega
    refine ⟨sz, ?_⟩
    refine ⟨rfl, .inr kd, r, d, rfl, ok, kd, fun z => ⟨hx, sz, k1 z⟩, fun r' z => ⟨sz, k2 r' z⟩⟩
  · obtain ⟨r, d, rfl, _⟩ := h
    rfl
def spOnLft (C CT : Addr) : DSp := fun ds n Q _ => ∃ r d, ds = [perD C r, d] ∧ decD d ∧ r.Ok ∧ Kd d ∧ (laterR r d = none → Q (.tup [.non, .exc CT d]) n) ∧ ∀ r', laterR r d = some r' → Q (.tup [perD C r', .non]) n
theorem sc__law_on_the_left : FnScope ["_law_person", "_law_ticks", "error", "_law_made", "_law_caught"] ["_law_person", "_law_ticks"] (defScope (top 30)) := ⟨rfl, rfl, rfl, by decide +kernel, rfl, by decide +kernel, by decide +kernel⟩
theorem ok_on_left {AE : Addr} {G : Bool} (F : Has K mg "_law_on_the_left" (top 30)) (T : Blt mg) (HAE : mg "AimError" = some (.ref AE)) (hx : PySem.W.exmOne K (.ref C_BadTicks) (.ref AE) = some true) (V_Person : ClsPerson K mg C) (F_Person : PySem.W.selfFirst K C = true) (A_Person_add : ∃ f, PySem.W.findIn K (.ref C) (PySem.dunder "add") = some (some (.ref f))) (S_Person : ∀ t ∈ (["NoneType", "bool", "int", "dict"] : List String), PySem.W.subIn K (.ref C) (.type t) = some false) (M_Person___radd__ : MdD P w K mg base TT 6 C "__radd__" (spLater C C_BadTicks)) : Df P w K mg base G 8 "_law_on_the_left" (LSp K TT (spOnLft C C_BadTicks)) := by
  refine dat_ok F (fun f fd F => F.binds (fun _ _ _ _ _ _ us hl => match us, hl with | [_, _], _ => rfl)) sc__law_on_the_left (fun f cdv A outer s H E hr hG => ⟨_, (dss_cons (ds_asg (de_tup (da_cons de_non (da_cons de_non da_nil))) (dg_tup (n := 2) rfl (dgs_cons (dg_name (pg_name (i := 3) sc__law_on_the_left.nd rfl (Or.inl rfl) (Or.inl rfl))) (dgs_cons (dg_name (pg_name (i := 4) sc__law_on_the_left.nd rfl (Or.inl rfl) (Or.inl rfl))) dgs_nil)) (fun ds ρ P h => dgl_len (l := [3, 4]) h)))
      (dss_cons (ds_try (jv := 4) (je := 2) rfl rfl rfl sc__law_on_the_left.nd rfl rfl rfl rfl rfl (by decide) rfl HAE (by decide) (by decide) (by decide) (fun W pn xe tk => (dsw_addR M_Person___radd__ F_Person A_Person_add S_Person hr (by first | decide | omega) tk (de_var (pv 1)) (de_var (pv 0)) (fun hq => ps_asg hq (pg_name (i := 3) sc__law_on_the_left.nd rfl (Or.inl rfl))))))
      (dss_one (ds_ret (de_tup (da_cons (de_var (pv 3)) (da_cons (de_var (pv 4)) da_nil))))))), fun ds n PP R h => ?_⟩) (fun ds n PP R h => ?_)
  · obtain ⟨r, d, rfl, dd, ok, kd, k1, k2⟩ := h
    refine ⟨rfl, ?_⟩
    have sz : (2 : Nat) ≤ sizeLine := by
      have sz : sizeLine = 16777216 := by decide +kernel
      omega
    refine ⟨sz, ?_⟩
    exact ⟨rfl, dd, r, d, rfl, ok, kd, fun z => ⟨hx, sz, k1 z⟩, fun r' z => ⟨sz, k2 r' z⟩⟩
  · obtain ⟨r, d, rfl, _⟩ := h
    rfl
theorem lvl_flat9 {d : Dat} (h : flatK d = true) : ∀ k, Lvl k d
  | 0 => h
  | _ + 1 => .inl h
theorem rowL_lvl (x : Rw) : Lvl 7 (rowL x) := .inr ⟨_, .inr rfl, fun d hd => by
  simp only [List.mem_cons, List.not_mem_nil, or_false] at hd
  rcases hd with rfl | rfl | rfl | rfl
  · exact lvl_flat9 rfl 6
  · cases x.s <;> exact lvl_flat9 rfl 6
  · exact lvl_flat9 rfl 6
  · exact lvl_flat9 rfl 6⟩
theorem rowL_plain (x : Rw) : plain (rowL x) = true := by
  unfold rowL
  cases x.s <;> rfl
theorem rowL_self (x : Rw) : sameD (rowL x) (rowL x) = true := by
  have e : sameD (rowL x) (rowL x) = ((x.f == x.f) && (sameD (slowD x.s) (slowD x.s) && ((x.h == x.h) && ((x.a == x.a) && true)))) := rfl
  have s : sameD (slowD x.s) (slowD x.s) = true := by
    cases x.s with
    | none => rfl
    | some i =>
      show (i == i) = true
      exact beq_self_eq_true _
  rw [e, s, beq_self_eq_true, beq_self_eq_true, beq_self_eq_true]
  rfl
def spSum (C CT : Addr) : DSp := fun ds n Q _ => ∃ r d m c, ds = [rowL r, d, m, c] ∧ Kd d ∧ ShowD d ∧ ((laterR r d = none ∧ m = .non ∧ c = .exc CT d) ∨ ∃ r', laterR r d = some r' ∧ m = perD C r' ∧ c = .non) ∧ Q (.bl true) n
theorem sc__law_sum_right : FnScope ["_law_row", "_law_ticks", "_law_made", "_law_caught", "_law_fits", "_law_late"] ["_law_row", "_law_ticks", "_law_made", "_law_caught"] (defScope (top 28)) := ⟨rfl, rfl, rfl, by decide +kernel, rfl, by decide +kernel, by decide +kernel⟩
theorem ok_sum {AE : Addr} (SY : SysB base) (F : Has K mg "_law_sum_right" (top 28)) (T : Blt mg) (Z : ErrP8 P K mg stI fI AE C_BadTicks C_BadAhead) (hi : PySem.W.kitOne K (.ref C_BadTicks) (.ref C_BadTicks) = some true) (V_Person : ClsPerson K mg C) (I_Person : InsT K C) (D__law_is : Df P w K mg base false 1 "_law_is" (LSp K TT spIs)) (D__law_numbers : Df P w K mg base false 5 "_law_numbers" (LSp K TT (spNumbersL C))) (D__law_same : Df P w K mg base false 9 "_law_same" (LSp K TT (spSame 7))) : Df P w K mg base true 10 "_law_sum_right" (LSp K TT (spSum C C_BadTicks)) := by
  refine dat_ok F (fun f fd F => F.binds (fun _ _ _ _ _ _ us hl => match us, hl with | [_, _, _, _], _ => rfl)) sc__law_sum_right (fun f cdv A outer s H E hr hG => ⟨_, (dss_cons (ds_set (i := 4) sc__law_sum_right.nd rfl (Or.inl rfl) (de_and (de_call D__law_is hr (by first | decide | omega) (by first | exact hG | (intro z; cases z)) rfl passL (da_cons de_str (da_cons (de_var (pv 1)) da_nil))) (de_one (de_chain op_le op_le (od_IB _) (od_IB _) de_int (de_var (pv 1)) de_int))))
      (dss_cons (ds_if (PW.pt (dw_or (dt_not (dt_val (de_var (pv 4)))) (dw_or1 (PW.pt (dw_and (dt_notN (de_ix ix_seq od_ix (de_var (pv 0)) de_int (fun _ _ => rfl))) (dw_and1 (dt_cmp op_gt (od_IB _) (de_op op_addAny od_add (de_ix ix_seq od_ix (de_var (pv 0)) de_int (fun _ _ => rfl)) (de_var (pv 1))) de_int (nomark _)))))))) (dss_one (ds_ret (de_and (de_isX (pe_callB call_isiX rfl T.n_isinstance boot_isinstance (pa_cons (de_var (pv 3)) (pa_cons (pe_glob (v := .ref C_BadTicks) rfl Z.m_BadTicks rfl) pa_nil)))) (de_one (de_repEq (pe_callB (call_reprS SY (hG rfl) hr.units) rfl T.n_repr boot_repr (pa_cons (de_val Z.c_BadTicks (pe_xcv (de_var (pv 3)))) pa_nil)) (pe_callB (call_reprS SY (hG rfl) hr.units) rfl T.n_repr boot_repr (pa_cons (de_var (pv 1)) pa_nil)) (nomark _)))))) dss_nil)
      (dss_cons (ds_if (PW.pt (dw_or (dt_notN (de_var (pv 3))) (dw_or1 (dt_not (dt_val (de_isO I_Person (pe_callB call_isi rfl T.n_isinstance boot_isinstance (pa_cons (de_var (pv 2)) (pa_cons (pe_glob (v := .ref _) rfl V_Person.mg rfl) pa_nil))))))))) (dss_one (ds_ret de_bl)) dss_nil)
      (dss_cons (ds_set (i := 5) sc__law_sum_right.nd rfl (Or.inl rfl) (de_if (dt_isN (de_ix ix_seq od_ix (de_var (pv 0)) de_int (fun _ _ => rfl))) de_non (de_op op_addAny od_add (de_ix ix_seq od_ix (de_var (pv 0)) de_int (fun _ _ => rfl)) (de_var (pv 1)))))
      (dss_one (ds_ret (de_call D__law_same hr (by first | decide | omega) (by first | exact hG | (intro z; cases z)) rfl passL (da_cons (de_call D__law_numbers hr (by first | decide | omega) (by first | exact hG | (intro z; cases z)) rfl passL (da_cons (de_var (pv 2)) da_nil)) (da_cons (de_lst (da_cons (de_ix ix_seq od_ix (de_var (pv 0)) de_int (fun _ _ => rfl)) (da_cons (de_var (pv 5)) (da_cons (de_ix ix_seq od_ix (de_var (pv 0)) de_int (fun _ _ => rfl)) (da_cons (de_ix ix_seq od_ix (de_var (pv 0)) de_int (fun _ _ => rfl)) da_nil))))) da_nil))))))))), fun ds n PP R h => ?_⟩) (fun ds n PP R h => ?_)
  · obtain ⟨r, d, m, c, rfl, kd, sd, hc, k⟩ := h
    refine ⟨rfl, ?_⟩
    have tr : ∀ y : Str, (false ^^ decide (y = y)) = true := fun y => by simp
    obtain ⟨rf, s, hh, ra⟩ := r
    refine ⟨"int", d, rfl, kd, ?_⟩
    have lat : ∀ t, laterR ⟨rf, s, hh, ra⟩ (.int t) = if 0 ≤ t ∧ t ≤ 6 then (match s with | none => some ⟨rf, s, hh, ra⟩ | some i => if i + t ≤ 6 then some ⟨rf, some (i + t), hh, ra⟩ else none) else none := fun _ => rfl
    rcases hc with ⟨e, rfl, rfl⟩ | ⟨r', e, rfl, rfl⟩
    · cases d with
      | int t =>
        rw [lat] at e
        refine ite2 (fun c1 => ?_) (fun c1 => ?_)
        · have c1 : 0 ≤ t := of_decide_eq_true c1
          refine ite2 (fun c2 => ?_) (fun c2 => ?_)
          · refine ⟨⟨fI, AE, Z.c_BadTicks⟩, true, hi, ?_⟩
            refine ⟨rfl, sd, sd, ?_⟩
            rw [tr]
            exact k
          · have c2 : t ≤ 6 := by
              cases z : decide (t ≤ 6) with
              | true => exact of_decide_eq_true z
              | false =>
                exfalso
                exact c2 (by show (!decide (t ≤ 6)) = true; rw [z]; rfl)
            rw [if_pos ⟨c1, c2⟩] at e
            cases s with
            | none => cases e
            | some i =>
              refine ite2 (fun c3 => ?_) (fun c3 => ?_)
              · refine ⟨⟨fI, AE, Z.c_BadTicks⟩, true, hi, ?_⟩
                refine ⟨rfl, sd, sd, ?_⟩
                rw [tr]
                exact k
              · have c3 : i + t ≤ 6 := by
                  have z : ¬ 6 < i + t := fun z => c3 (decide_eq_true z)
                  omega
                have e : (if i + t ≤ 6 then some (Rw.mk rf (some (i + t)) hh ra) else none) = none := e
                rw [if_pos c3] at e
                cases e
        · refine ⟨⟨fI, AE, Z.c_BadTicks⟩, true, hi, ?_⟩
          refine ⟨rfl, sd, sd, ?_⟩
          rw [tr]
          exact k
      | _ =>
        refine ⟨⟨fI, AE, Z.c_BadTicks⟩, true, hi, ?_⟩
        refine ⟨rfl, sd, sd, ?_⟩
        rw [tr]
        exact k
    · obtain ⟨t, rfl⟩ : ∃ t, d = .int t := by
        cases d with
        | int t => exact ⟨t, rfl⟩
        | _ => cases e
      rw [lat] at e
      have ht : 0 ≤ t ∧ t ≤ 6 := by
        by_cases z : 0 ≤ t ∧ t ≤ 6
        · exact z
        · rw [if_neg z] at e
          cases e
      rw [if_pos ht] at e
      have sz4 : (4 : Nat) ≤ sizeLine := by
        have sz : sizeLine = 16777216 := by decide +kernel
        omega
      refine ite2 (fun c1 => ?_) (fun c1 => absurd (decide_eq_true ht.1) c1)
      have z6 : (!decide (t ≤ 6)) = false := by
        rw [decide_eq_true ht.2]
        rfl
      refine ite2 (fun c2 => ?_) (fun c2 => ?_)
      · exfalso
        have c2 : (!decide (t ≤ 6)) = true := c2
        rw [z6] at c2
        cases c2
      cases s with
      | none =>
        cases e
        refine ⟨rfl, ?_⟩
        refine ⟨⟨rf, none, hh, ra⟩, rfl, sz4, _, _, rfl, rowL_lvl ⟨rf, none, hh, ra⟩, rowL_plain ⟨rf, none, hh, ra⟩, rowL_plain ⟨rf, none, hh, ra⟩, ?_⟩
        show PP (.bl (sameD (rowL ⟨rf, none, hh, ra⟩) (rowL ⟨rf, none, hh, ra⟩))) n
        rw [rowL_self]
        exact k
      | some i =>
        have e : (if i + t ≤ 6 then some (Rw.mk rf (some (i + t)) hh ra) else none) = some r' := e
        have c4 : i + t ≤ 6 := by
          by_cases z : i + t ≤ 6
          · exact z
          · rw [if_neg z] at e
            cases e
        rw [if_pos c4] at e
        cases e
        refine ite2 (fun c3 => ?_) (fun c3 => ?_)
        · exfalso
          have c3 : 6 < i + t := of_decide_eq_true c3
          omega
        refine ⟨rfl, ?_⟩
        refine ⟨⟨rf, some (i + t), hh, ra⟩, rfl, sz4, _, _, rfl, rowL_lvl ⟨rf, some (i + t), hh, ra⟩, rowL_plain ⟨rf, some (i + t), hh, ra⟩, rowL_plain ⟨rf, some (i + t), hh, ra⟩, ?_⟩
        show PP (.bl (sameD (rowL ⟨rf, some (i + t), hh, ra⟩) (rowL ⟨rf, some (i + t), hh, ra⟩))) n
        rw [rowL_self]
        exact k
  · obtain ⟨r, d, m, c, rfl, _⟩ := h
    rfl
end
end
end Aim

namespace Aim
open PySem PySem.Spec PyProof.Rows L2 RZ
open LamX (TabB)
/-! ### isinstance(x, (str, tuple, list)) -/
section
variable {S : Type} [Stt S] {X : Cx} {TT : List (Addr × Str)} {E : XK}
def gSTL : Dat → (Dat → Prop) → Prop := fun d P => optD (tyK d) fun t => P (.bl (t == "str" || (t == "tuple" || t == "list")))
theorem de_isSTL {a : Expr} {f : GDE S} {x1 : Nat} {p1 p2 p3 p4 p5 pos : Pos} (h : PE X (.Call (.Name "isinstance" p1) [a, .Tuple [.Name "str" p5, .Name "tuple" p2, .Name "list" p3] x1 p4] [] pos) (tCB (rIsiT X.K) (tCons (LE X.K TT E f) (tCons (tTup (tCons (tC (.ty "str")) (tCons (tC (.ty "tuple")) (tCons (tC (.ty "list")) tNil)))) tNil)))) :
    PE X (.Call (.Name "isinstance" p1) [a, .Tuple [.Name "str" p5, .Name "tuple" p2, .Name "list" p3] x1 p4] [] pos) (LE X.K TT E (dUn gSTL f)) := h.imp fun σ H Q ⟨ρ, n, P, R, r, q, k, x⟩ => by
  refine ⟨ρ, n, _, R, r, q, fun d m v H1 z e s => ⟨by show 3 ≤ sizeLine; decide, fun p hp => ?_⟩, x⟩
  obtain ⟨t, e1, z⟩ := optD_of z
  have g : Grow H1 (upd H1 p (.tup [.ty "str", .ty "tuple", .ty "list"])) := .new hp
  refine ⟨v, p, _, _, [.type "str", .type "tuple", .type "list"], (t == "str" || (t == "tuple" || t == "list")), rfl, upd_same, .cons (.ty _) (.cons (.ty _) (.cons (.ty _) .nil)), (s.grow g).tyx e1, ?_, k _ m _ _ z (e.trans (.grow g)) (.bl _)⟩
  have ht := tyK_mem e1
  have e0 : isT "str" t = (t == "str") := by rcases ht with h | h | h | h | h | h | h | h <;> subst h <;> rfl
  have e2 : isT "tuple" t = (t == "tuple") := by rcases ht with h | h | h | h | h | h | h | h <;> subst h <;> rfl
  have e3 : isT "list" t = (t == "list") := by rcases ht with h | h | h | h | h | h | h | h <;> subst h <;> rfl
  refine kitAny_cons (kit_T (T := "str") (by simp) ht) (fun w0 => ?_) fun w => by rw [← e0, w, Bool.true_or]
  refine kitAny_cons (kit_T (T := "tuple") (by simp) ht) (fun w => ?_) fun w => by rw [← e2, w, Bool.true_or, Bool.or_true]
  refine kitAny_cons (kit_T (T := "list") (by simp) ht) (fun w2 => ?_) fun w2 => by rw [← e3, w2, Bool.or_true, Bool.or_true]
  rw [e0] at w0
  rw [e2] at w
  rw [e3] at w2
  rw [w0, w, w2]
  rfl
end
section
variable {P : Program} {w : World} {K : PySem.W.Frag} {mg : Str → Option Value} {base : Heap} {TT : List (Addr × Str)}
section
variable {stI : Stmt} {fI AE C C_BadTicks C_BadAhead : Addr}
def spTicks (C : Addr) : DSp := fun ds n Q _ => ∃ r d, ds = [rowL r, perD C r, d] ∧ r.Ok ∧ Kd d ∧ ShowD d ∧ (∀ b, d ≠ .byt b) ∧ Q (.bl true) n
theorem sc__law_ticks_right : FnScope ["_law_row", "_law_person", "_law_ticks", "_law_fits", "_law_made", "_law_caught"] ["_law_row", "_law_person", "_law_ticks"] (defScope (top 31)) := ⟨rfl, rfl, rfl, by decide +kernel, rfl, by decide +kernel, by decide +kernel⟩
theorem ok_ticks (SY : SysB base) (F : Has K mg "_law_ticks_right" (top 31)) (T : Blt mg) (V_Person : ClsPerson K mg C) (M_Person___contains__ : MdD P w K mg base TT 2 C "__contains__" (spHasP C)) (D__law_is : Df P w K mg base false 1 "_law_is" (LSp K TT spIs)) (D__law_same : Df P w K mg base false 9 "_law_same" (LSp K TT (spSame 7))) (D__law_on_the_right : Df P w K mg base false 8 "_law_on_the_right" (LSp K TT (spOnR C C_BadTicks))) (D__law_on_the_left : Df P w K mg base false 8 "_law_on_the_left" (LSp K TT (spOnLft C C_BadTicks))) (D__law_sum_right : Df P w K mg base true 10 "_law_sum_right" (LSp K TT (spSum C C_BadTicks))) : Df P w K mg base true 12 "_law_ticks_right" (LSp K TT (spTicks C)) := by
  refine dat_ok F (fun f fd F => F.binds (fun _ _ _ _ _ _ us hl => match us, hl with | [_, _, _], _ => rfl)) sc__law_ticks_right (fun f cdv A outer s H E hr hG => ⟨_, (dss_cut (ds_set (i := 3) sc__law_ticks_right.nd rfl (Or.inl rfl) (de_and (de_call D__law_is hr (by first | decide | omega) (by first | exact hG | (intro z; cases z)) rfl passL (da_cons de_str (da_cons (de_var (pv 2)) da_nil))) (de_and (de_cmp op_le (od_IB _) (de_ix ix_seq od_ix (de_var (pv 0)) de_int (fun _ _ => rfl)) (de_var (pv 2)) (nomark _)) (de_one (de_or (de_isN (de_ix ix_seq od_ix (de_var (pv 0)) de_int (fun _ _ => rfl))) (de_one (de_cmp op_le (od_IB _) (de_var (pv 2)) (de_ix ix_seq od_ix (de_var (pv 0)) de_int (fun _ _ => rfl)) (nomark _))))))))
      (dss_cons (ds_if (dt_not (dt_val (de_call D__law_same hr (by first | decide | omega) (by first | exact hG | (intro z; cases z)) rfl passL (da_cons (de_inO M_Person___contains__ hr (by first | decide | omega) passL (de_var (pv 2)) (de_var (pv 1))) (da_cons (de_var (pv 3)) da_nil))))) (dss_one (ds_ret de_bl)) dss_nil)
      (dss_cons (ds_asg (de_call D__law_on_the_right hr (by first | decide | omega) (by first | exact hG | (intro z; cases z)) rfl passL (da_cons (de_var (pv 1)) (da_cons (de_var (pv 2)) da_nil))) (dg_tup (n := 2) rfl (dgs_cons (dg_name (pg_name (i := 4) sc__law_ticks_right.nd rfl (Or.inl rfl) (Or.inl rfl))) (dgs_cons (dg_name (pg_name (i := 5) sc__law_ticks_right.nd rfl (Or.inl rfl) (Or.inl rfl))) dgs_nil)) (fun ds ρ P h => dgl_len (l := [4, 5]) h)))
      (dss_cons (ds_if (dt_not (dt_val (de_call D__law_sum_right hr (by first | decide | omega) (by first | exact hG | (intro z; cases z)) rfl passL (da_cons (de_var (pv 0)) (da_cons (de_var (pv 2)) (da_cons (de_var (pv 4)) (da_cons (de_var (pv 5)) da_nil))))))) (dss_one (ds_ret de_bl)) dss_nil)
      (dss_cons (ds_if (dt_val (de_isSTL (pe_callB call_isiT rfl T.n_isinstance boot_isinstance (pa_cons (de_var (pv 2)) (pa_cons (pe_tup (pa_cons (pe_bltn (v := .ty "str") rfl T.n_str boot_str rfl) (pa_cons (pe_bltn (v := .ty "tuple") rfl T.n_tuple boot_tuple rfl) (pa_cons (pe_bltn (v := .ty "list") rfl T.n_list boot_list rfl) pa_nil)))) pa_nil))))) (dss_one (ds_ret de_bl)) dss_nil)
      (dss_cons (ds_asg (de_call D__law_on_the_left hr (by first | decide | omega) (by first | exact hG | (intro z; cases z)) rfl passL (da_cons (de_var (pv 1)) (da_cons (de_var (pv 2)) da_nil))) (dg_tup (n := 2) rfl (dgs_cons (dg_name (pg_name (i := 4) sc__law_ticks_right.nd rfl (Or.inl rfl) (Or.inl rfl))) (dgs_cons (dg_name (pg_name (i := 5) sc__law_ticks_right.nd rfl (Or.inl rfl) (Or.inl rfl))) dgs_nil)) (fun ds ρ P h => dgl_len (l := [4, 5]) h)))
      (dss_one (ds_ret (de_call D__law_sum_right hr (by first | decide | omega) (by first | exact hG | (intro z; cases z)) rfl passL (da_cons (de_var (pv 0)) (da_cons (de_var (pv 2)) (da_cons (de_var (pv 4)) (da_cons (de_var (pv 5)) da_nil))))))))))))), fun ds n PP R h => ?_⟩) (fun ds n PP R h => ?_)
  · obtain ⟨r, d, rfl, ok, kd, sd, nb, k⟩ := h
    refine ⟨rfl, ?_⟩
    refine ⟨fun ρ' m => ρ' = [.val (rowL r), .val (perD C r), .val d, .val (.bl (hasR r d)), .no, .no] ∧ m = n, ?_, ?_⟩
    · refine ⟨"int", d, rfl, kd, ?_⟩
      cases d with
      | int t =>
        obtain ⟨f, s, hh, a⟩ := r
        refine ite2 (fun c => ?_) (fun c => ?_)
        · have c : decide (f ≤ t) = true := c
          cases s with
          | none =>
            have e : hasR ⟨f, none, hh, a⟩ (.int t) = true := by
              show (decide (f ≤ t) && true) = true
              rw [c]
              rfl
            rw [e]
            exact ⟨rfl, rfl⟩
          | some i =>
            have e : hasR ⟨f, some i, hh, a⟩ (.int t) = decide (t ≤ i) := by
              show (decide (f ≤ t) && decide (t ≤ i)) = _
              rw [c]
              rfl
            rw [e]
            exact ⟨rfl, rfl⟩
        · have c : decide (f ≤ t) = false := Bool.eq_false_iff.mpr c
          have e : hasR ⟨f, s, hh, a⟩ (.int t) = false := by
            show (decide (f ≤ t) && _) = false
            rw [c]
            rfl
          rw [e]
          exact ⟨rfl, rfl⟩
      | _ => exact ⟨rfl, rfl⟩
    rintro ρ' m ⟨rfl, rfl⟩
    refine ⟨rfl, r, d, rfl, kd, ?_⟩
    refine ⟨_, _, rfl, .inl rfl, rfl, rfl, ?_⟩
    rw [show sameD (.bl (false ^^ hasR r d)) (.bl (hasR r d)) = true from by rw [Bool.false_xor]; exact beq_self_eq_true _]
    refine ⟨r, d, rfl, ok, kd, fun z => ?_, fun r' z => ?_⟩
    · refine ⟨r, d, _, _, rfl, kd, sd, .inl ⟨z, rfl, rfl⟩, ?_⟩
      cases d <;> first
        | exact k
        | exact ⟨r, _, rfl, trivial, ok, kd, fun z => ⟨r, _, _, _, rfl, kd, sd, .inl ⟨z, rfl, rfl⟩, k⟩, fun r' z => ⟨r, _, _, _, rfl, kd, sd, .inr ⟨r', z, rfl, rfl⟩, k⟩⟩
        | exact absurd rfl (nb _)
        | cases kd
    · refine ⟨r, d, _, _, rfl, kd, sd, .inr ⟨r', z, rfl, rfl⟩, ?_⟩
      cases d <;> first
        | exact k
        | exact ⟨r, _, rfl, trivial, ok, kd, fun z => ⟨r, _, _, _, rfl, kd, sd, .inl ⟨z, rfl, rfl⟩, k⟩, fun r' z => ⟨r, _, _, _, rfl, kd, sd, .inr ⟨r', z, rfl, rfl⟩, k⟩⟩
        | exact absurd rfl (nb _)
        | cases kd
  · obtain ⟨r, d, rfl, _⟩ := h
    rfl
/-! ### one person -/
theorem ten61 : (10 : Nat) ^ 61 < 2 ^ 210 := by decide
theorem show_int {i : Int} (h : i.natAbs < 10 ^ 61) : ShowD (.int i) := by
  have e := int_text_length_le10 (k := 61) (by decide) h
  have l : (Str.ofString (toString i)).length ≤ 62 := by
    rw [PySem.ofString_length]
    exact e
  have lg : i.natAbs.log2 < 1920 := by
    by_cases z : i.natAbs = 0
    · rw [z]
      decide
    · refine Nat.lt_trans ((Nat.log2_lt z).mpr (Nat.lt_trans h ten61)) (by decide)
  have sz : sizeLine = 16777216 := by decide +kernel
  refine ⟨rfl, by simp only [pyR, PyData.showable]; exact decide_eq_true lg, by simp [pyR, PyData.depth], ?_⟩
  simp only [pyR, PyData.shown]
  show (Str.ofString (toString i)).length ≤ _
  omega
def AskT (d : Dat) : Prop := Kd d ∧ ShowD d ∧ ∀ b, d ≠ .byt b
theorem ask_odd {d : Dat} (h : d ∈ oddL) : AskT d := by
  have z := odd_bv (J := fun i => i.natAbs < 10 ^ 50) (s := 1) (k := 0) ⟨by decide, by decide, by decide⟩ (Nat.le_refl _) d h
  refine ⟨z.1.ty, z.1.showD (fun i h => h) (by decide) (Nat.le_trans z.2 (by decide)), fun b e => ?_⟩
  subst e
  unfold oddL at h
  simp only [List.mem_cons, List.not_mem_nil, or_false] at h
  rcases h with h | h | h | h | h | h | h | h | h | h | h | h | h | h | h <;> cases h
theorem ask_bv {d : Dat} {k : Nat} (h : BV (fun i => i.natAbs < 10 ^ 50) 40 k d) (hk : k ≤ 39) (hw : wt d ≤ 16000000) (nb : ∀ b, d ≠ .byt b) : AskT d := ⟨h.ty, h.showD (fun _ h => h) hk hw, nb⟩
def spRightT : DSp := fun ds n Q _ => ds = [.pot] ∧ n < 700000 ∧ ∀ m, n ≤ m → m ≤ n + 100 → Q (.bl true) m
theorem sc__law_right : FnScope ["_law_pot_here", "_law_early", "_law_late", "_law_row", "_law_person", "_law_great", "_law_some", "_law_ticks"] ["_law_pot_here"] (defScope (top 32)) := ⟨rfl, rfl, rfl, by decide +kernel, rfl, by decide +kernel, by decide +kernel⟩
theorem ok_rightT (SY : SysB base) (F : Has K mg "_law_right" (top 32)) (T : Blt mg) (V_Person : ClsPerson K mg C) (MP_Person : DfK' P w K mg base TT 3 C 2 ["hold", "ahead"] (fun ds es => ds ++ es) (spPersonD C)) (D__law_take : Df P w K mg base false 1 "_law_take" (LSp K TT spTake)) (D__law_of : Df P w K mg base false 2 "_law_of" (LSp K TT spOf)) (D__law_odd : Df P w K mg base false 3 "_law_odd" (LSp K TT spOdd)) (D__law_same : Df P w K mg base false 9 "_law_same" (LSp K TT (spSame 7))) (D__law_numbers : Df P w K mg base false 5 "_law_numbers" (LSp K TT (spNumbersL C))) (D__law_ticks_right : Df P w K mg base true 12 "_law_ticks_right" (LSp K TT (spTicks C))) : Df P w K mg base true 14 "_law_right" (LSp K TT spRightT) := by
  refine dat_okX F (fun f fd F => F.binds (fun _ _ _ _ _ _ us hl => match us, hl with | [_], _ => rfl)) sc__law_right (fun f cdv A outer s H E hr hG => ⟨_, (dss_cons (ds_set (i := 1) sc__law_right.nd rfl (Or.inl rfl) (de_call D__law_take hr (by first | decide | omega) (by first | exact hG | (intro z; cases z)) rfl (passes_call (takes_of rfl rfl rfl rfl) (fun _ _ _ _ h => h)) (da_cons (de_var (pv 0)) (da_cons de_int da_nil))))
      (dss_cons (ds_set (i := 2) sc__law_right.nd rfl (Or.inl rfl) (de_call D__law_of hr (by first | decide | omega) (by first | exact hG | (intro z; cases z)) rfl (passes_call (takes_of rfl rfl rfl rfl) (fun _ _ _ _ h => h)) (da_cons (de_var (pv 0)) (da_cons (de_lst (da_cons de_non (da_cons (de_var (pv 1)) (da_cons (de_op op_addAny od_add (de_var (pv 1)) (de_call D__law_take hr (by first | decide | omega) (by first | exact hG | (intro z; cases z)) rfl (passes_call (takes_of rfl rfl rfl rfl) (fun _ _ _ _ h => h)) (da_cons (de_var (pv 0)) (da_cons (de_op op_sub (od_II _) de_int (de_var (pv 1))) da_nil)))) da_nil)))) da_nil))))
      (dss_cons (ds_set (i := 3) sc__law_right.nd rfl (Or.inr rfl) (de_lst (da_cons (de_var (pv 1)) (da_cons (de_var (pv 2)) (da_cons (de_call D__law_take hr (by first | decide | omega) (by first | exact hG | (intro z; cases z)) rfl (passes_call (takes_of rfl rfl rfl rfl) (fun _ _ _ _ h => h)) (da_cons (de_var (pv 0)) (da_cons de_int da_nil))) (da_cons (de_op op_addAny od_add de_int (de_call D__law_take hr (by first | decide | omega) (by first | exact hG | (intro z; cases z)) rfl (passes_call (takes_of rfl rfl rfl rfl) (fun _ _ _ _ h => h)) (da_cons (de_var (pv 0)) (da_cons de_int da_nil)))) da_nil))))))
      (dss_cons (ds_set (i := 4) sc__law_right.nd rfl (Or.inr rfl) (de_makeP MP_Person hr (by first | decide | omega) rfl V_Person.mg (passes_call (takes_of rfl rfl rfl rfl) (fun _ _ _ _ h => h)) (da_cons (de_var (pv 1)) (da_cons (de_var (pv 2)) da_nil)) (dk_cons (de_ix ix_seq od_ix (de_var (pv 3)) de_int (fun _ _ => rfl)) (dk_cons (de_ix ix_seq od_ix (de_var (pv 3)) de_int (fun _ _ => rfl)) dk_nil))))
      (dss_cons (ds_set (i := 5) sc__law_right.nd rfl (Or.inl rfl) (de_op op_addAny od_add de_int (de_call D__law_take hr (by first | decide | omega) (by first | exact hG | (intro z; cases z)) rfl (passes_call (takes_of rfl rfl rfl rfl) (fun _ _ _ _ h => h)) (da_cons (de_var (pv 0)) (da_cons (de_op op_powW (od_IC _) de_int de_int) da_nil)))))
      (dss_cons (ds_set (i := 6) sc__law_right.nd rfl (Or.inl rfl) (de_op op_addAny od_add (de_fr (L2.PE.imp (pe_listRg rfl rfl T.n_list (prg_2 rfl T.n_range (de_neg de_int) de_int)) fun _ _ _ h => lf_rg2 h)) (de_lst (da_cons (de_var (pv 5)) (da_cons de_bl (da_cons de_bl (da_cons de_non (da_cons de_dict0 (da_cons de_str (da_cons de_str (da_cons (de_tup da_nil) (da_cons (de_tup (da_cons de_int da_nil)) (da_cons (de_lst (da_cons de_int da_nil)) (da_cons (de_call D__law_odd hr (by first | decide | omega) (by first | exact hG | (intro z; cases z)) rfl (passes_call (takes_of rfl rfl rfl rfl) (fun _ _ _ _ h => h)) (da_cons (de_var (pv 0)) da_nil)) da_nil))))))))))))))
      (dss_cons (ds_if (dt_not (dt_val (de_cb cd_all (pe_callB (cr_all rfl) rfl T.n_all boot_all (da_cons (de_fr (lf_lcI (own := [("_law_ticks", 7)]) rfl sc__law_right.nd (di_list (de_var (pv 6))) (blkOk_by rfl) (fun _ _ _ _ _ => (dg_name (pg_name (i := 7) sc__law_right.nd rfl (Or.inl rfl) (Or.inr rfl)))) (fun _ _ _ _ _ => dts_nil) (fun _ _ _ _ _ => (de_call D__law_ticks_right hr (by first | decide | omega) (by first | exact hG | (intro z; cases z)) rfl passL (da_cons (de_var (pv 3)) (da_cons (de_var (pv 4)) (da_cons (de_var (pv 7)) da_nil))))))) da_nil))))) (dss_one (ds_ret de_bl)) dss_nil)
      (dss_one (ds_ret (de_call D__law_same hr (by first | decide | omega) (by first | exact hG | (intro z; cases z)) rfl (passes_call (takes_of rfl rfl rfl rfl) (fun _ _ _ _ h => h)) (da_cons (de_call D__law_numbers hr (by first | decide | omega) (by first | exact hG | (intro z; cases z)) rfl (passes_call (takes_of rfl rfl rfl rfl) (fun _ _ _ _ h => h)) (da_cons (de_var (pv 4)) da_nil)) (da_cons (de_var (pv 3)) da_nil)))))))))))), fun ds n PP R h => ?_⟩) (fun ds n PP R h => ?_)
  · obtain ⟨rfl, hn, k⟩ := h
    refine ⟨rfl, ?_⟩
    refine ⟨7, rfl, by omega, by decide, by decide, fun e e0 e1 => ?_⟩
    refine ⟨7 - e, rfl, by omega, by omega, by omega, fun b b0 b1 => ?_⟩
    have sz : sizeLine = 16777216 := by decide +kernel
    refine ⟨by rw [sz]; show 3 ≤ _; omega, [.non, .int e, .int (e + b)], .inl rfl, by omega, by show 0 < 3; omega, by show 3 ≤ 1000000; omega, fun u hu => ?_⟩
    obtain ⟨s, rfl, hs⟩ : ∃ s, u = slowD s ∧ ∀ i, s = some i → e ≤ i ∧ i ≤ 6 := by
      simp only [List.mem_cons, List.not_mem_nil, or_false] at hu
      rcases hu with rfl | rfl | rfl
      · exact ⟨none, rfl, fun i z => (by cases z)⟩
      · exact ⟨some e, rfl, fun i z => (by cases z; omega)⟩
      · exact ⟨some (e + b), rfl, fun i z => (by cases z; omega)⟩
    refine ⟨7, rfl, by omega, by decide, by decide, fun c c0 c1 => ?_⟩
    refine ⟨2, rfl, by omega, by decide, by decide, fun d d0 d1 => ?_⟩
    refine ⟨by rw [sz]; show 4 ≤ _; omega, ?_⟩
    have ok : Rw.Ok ⟨e, s, c, 1 + d⟩ := ⟨⟨e0, by show e ≤ 6; omega⟩, hs, ⟨c0, by show c ≤ 6; omega⟩, ⟨by show 1 ≤ 1 + d; omega, by show 1 + d ≤ 2; omega⟩⟩
    refine ⟨⟨rfl, rfl⟩, ⟨e, s, c, 1 + d⟩, rfl, ok, ?_⟩
    refine ⟨⟨by decide, by decide⟩, _, rfl, by omega, by decide, by decide, fun g g0 g1 => ?_⟩
    refine ⟨⟨by omega, by omega, by omega, by omega⟩, Nat.zero_le _, by rw [sz]; show 1 ≤ _; omega, by rw [sz]; show 1 ≤ _; omega, rfl, by omega, fun v hv => ?_⟩
    refine ⟨by rw [sz]; show 11 ≤ _; omega, by rw [sz]; show 11 + 11 ≤ _; omega, ?_⟩
    have ask : ∀ d ∈ numL (-1) 11 ++ [.int (7 + g), .bl true, .bl false, .non, .dct [] [], .str "", .str "1", .tup [], .tup [.int 1], .lst [.int 1], v], AskT d := fun d hd => by
      rcases List.mem_append.mp hd with z | z
      · obtain ⟨q, hq, e⟩ := List.mem_iff_getElem.mp z
        rw [numL_len] at hq
        have y := numL_get (-1) 11 q hq
        rw [List.getElem?_eq_getElem (by rw [numL_len]; exact hq), e] at y
        rw [Option.some.inj y]
        refine ⟨rfl, show_int ?_, fun b z => (by cases z)⟩
        have : ((-1 : Int) + (q : Int)).natAbs ≤ 20 := by omega
        exact Nat.lt_of_le_of_lt this (by decide)
      · simp only [List.mem_cons, List.not_mem_nil, or_false] at z
        rcases z with rfl | rfl | rfl | rfl | rfl | rfl | rfl | rfl | rfl | rfl | rfl
        · refine ⟨rfl, show_int ?_, fun b z => (by cases z)⟩
          have g1 : g < 10 ^ 60 := g1
          have : (7 + g).natAbs < 10 ^ 60 + 10 := by omega
          exact Nat.lt_trans this (by decide)
        · exact ask_bv (k := 0) trivial (by decide) (by decide) (fun b z => (by cases z))
        · exact ask_bv (k := 0) trivial (by decide) (by decide) (fun b z => (by cases z))
        · exact ask_odd (by simp [oddL])
        · exact ask_odd (by simp [oddL])
        · exact ask_odd (by simp [oddL])
        · exact ask_bv (k := 0) (strB_dec (by decide +kernel)) (by decide) (by decide) (fun b z => (by cases z))
        · exact ask_bv (k := 1) (.inr ⟨[], .inl rfl, by decide, fun x hx => (by cases hx)⟩) (by decide) (by decide) (fun b z => (by cases z))
        · exact ask_bv (k := 1) (.inr ⟨[.int 1], .inl rfl, by decide, fun x hx => (by rw [List.mem_singleton.mp hx]; exact (by decide : (1 : Int).natAbs < 10 ^ 50))⟩) (by decide) (by decide) (fun b z => (by cases z))
        · exact ask_bv (k := 1) (.inr ⟨[.int 1], .inr rfl, by decide, fun x hx => (by rw [List.mem_singleton.mp hx]; exact (by decide : (1 : Int).natAbs < 10 ^ 50))⟩) (by decide) (by decide) (fun b z => (by cases z))
        · exact ask_odd hv
    refine ⟨fun j acc m' => acc = (List.replicate j true).map Dat.bl ∧ m' = n + 1 + 1 + 1 + 1 + 1 + 1 + 1, ⟨rfl, rfl⟩, ?_, ?_⟩
    · rintro j d' acc m' ha ⟨rfl, rfl⟩
      obtain ⟨a1, a2, a3⟩ := ask d' (List.mem_of_getElem? ha)
      refine ⟨⟨e, s, c, 1 + d⟩, d', rfl, ok, a1, a2, a3, ?_, rfl⟩
      rw [List.replicate_succ', List.map_append]
      rfl
    · rintro acc m' ⟨rfl, rfl⟩
      refine bools_map _ ?_
      refine ⟨⟨e, s, c, 1 + d⟩, rfl, _, _, rfl, rowL_lvl _, rowL_plain _, rowL_plain ⟨e, s, c, 1 + d⟩, ?_⟩
      show PP (.bl (sameD (rowL ⟨e, s, c, 1 + d⟩) (rowL ⟨e, s, c, 1 + d⟩))) _
      rw [rowL_self]
      exact k _ (by omega) (by omega)
  · obtain ⟨rfl, _⟩ := h
    rfl
theorem sc_law : FnScope ["_law_script", "_law_place"] ["_law_script"] (defScope (top 33)) := ⟨rfl, rfl, rfl, by decide +kernel, rfl, by decide +kernel, by decide +kernel⟩
theorem ok_lawT (F : Has K mg "law" (top 33)) (T : Blt mg) (D__law_cells : Df P w K mg base false 1 "_law_cells" (LSp K TT spCells)) (D__law_pot : Df P w K mg base false 1 "_law_pot" (LSp K TT spPot)) (D__law_right : Df P w K mg base true 14 "_law_right" (LSp K TT spRightT)) : DfW P w K mg base true 17 "law" (top 33) ["_law_script"] (LSp K TT spLaw) := by
  refine dat_okW F (fun f fd F => F.binds (fun _ _ _ _ _ _ us hl => match us, hl with | [_], _ => rfl)) sc_law (fun f cdv A outer s H E hr hG => ⟨_, (dss_cons (ds_forI (passes_of rfl) rfl (di_list (de_call D__law_cells hr (by first | decide | omega) (by first | exact hG | (intro z; cases z)) rfl (passes_call (takes_of rfl rfl rfl rfl) (fun _ _ _ _ h => h)) (da_cons (de_var (pv 0)) (da_cons de_int da_nil)))) (dg_name (pg_name (i := 1) sc_law.nd rfl (Or.inl rfl) (Or.inl rfl))) (dss_one (ds_if (dt_not (dt_val (de_call D__law_right hr (by first | decide | omega) (by first | exact hG | (intro z; cases z)) rfl (passes_call (takes_of rfl rfl rfl rfl) (fun _ _ _ _ h => h)) (da_cons (de_call D__law_pot hr (by first | decide | omega) (by first | exact hG | (intro z; cases z)) rfl (passes_call (takes_of rfl rfl rfl rfl) (fun _ _ _ _ h => h)) (da_cons (de_var (pv 0)) (da_cons (de_var (pv 1)) da_nil))) da_nil)))) (dss_one (ds_ret de_bl)) dss_nil)))
      (dss_one (ds_ret de_bl))), fun ds n PP R h => ?_⟩) (fun ds n PP R h => ?_)
  · obtain ⟨ns, rfl, hl, hb, rfl, k⟩ := h
    refine ⟨rfl, ?_⟩
    refine ⟨ns, 3, rfl, hl, by decide, fun q q1 q2 => ?_⟩
    have q3 : q ≤ 3 := by omega
    refine ⟨fun i ρ' m => ∃ s1 : Sl, ρ' = [.val (.scr ns), s1] ∧ m ≤ 200 * i, ⟨.no, rfl, by omega⟩, ?_, ?_⟩
    · rintro i d ρ' m hd ⟨s1, rfl, hm⟩
      obtain ⟨e1, _⟩ := List.getElem?_eq_some_iff.mp hd
      rw [numL_len] at e1
      rw [numL_get _ _ _ e1] at hd
      cases hd
      refine ⟨ns, 0 + (i : Int), rfl, by omega, by omega, hb, hl, ?_⟩
      refine ⟨rfl, by omega, fun m' h1 h2 => ?_⟩
      exact ⟨_, rfl, by omega⟩
    · rintro ρ' m ⟨s1, rfl, hm⟩
      exact k m
  · obtain ⟨ns, rfl, _⟩ := h
    rfl
theorem perP_kw9 {kds : List (Str × V)} (d : MadeP (S := Nat) P w K mg base TT 3 C "Person.__init__" (inClass (top 18) 0) kds ["self", "fast", "slow", "hold", "ahead"] (spPersonD C)) (hk : kds ≠ []) : DfK' P w K mg base TT 3 C 2 ["hold", "ahead"] (fun ds es => ds ++ es) (spPersonD C) := d.kw 2 ["hold", "ahead"] hk fun D doc pm an cdv ct us ws h1 h2 => match us, ws, h1, h2 with
  | [_, _, _], [_, _], _, _ => rfl
theorem subC4 {C : Addr} (h1 : PySem.W.subIn K (.ref C) (.type "NoneType") = some false) (h2 : PySem.W.subIn K (.ref C) (.type "bool") = some false) (h3 : PySem.W.subIn K (.ref C) (.type "int") = some false) (h4 : PySem.W.subIn K (.ref C) (.type "dict") = some false) : ∀ t ∈ (["NoneType", "bool", "int", "dict"] : List String), PySem.W.subIn K (.ref C) (.type t) = some false := fun t ht => by
  simp only [List.mem_cons, List.not_mem_nil, or_false] at ht
  rcases ht with rfl | rfl | rfl | rfl
  · exact h1
  · exact h2
  · exact h3
  · exact h4
end
end
end Aim

namespace Aim
open PySem PySem.Spec PyProof.Rows L2
/-! ### what operators want of a class without reflected ones -/
theorem bin_ty {K : PySem.W.Frag} {nm : String} (h : ∀ t ∈ (["NoneType", "bool", "int", "str", "tuple", "list", "dict", "float", "bytes"] : List String), (PySem.W.findIn K (.type t) (PySem.dunder nm)).isSome = true ∧ (PySem.W.findIn K (.type t) (dunderR nm)).isSome = true) : ∀ t ∈ (["NoneType", "bool", "int", "str", "tuple", "list", "dict", "float", "bytes"] : List String), ∃ fo ro, PySem.W.findIn K (.type t) (PySem.dunder nm) = some fo ∧ PySem.W.findIn K (.type t) (dunderR nm) = some ro := fun t ht => by
  obtain ⟨h1, h2⟩ := h t ht
  obtain ⟨a, ha⟩ := Option.isSome_iff_exists.mp h1
  obtain ⟨b, hb⟩ := Option.isSome_iff_exists.mp h2
  exact ⟨a, b, ha, hb⟩
theorem lk_types {nm : Str} (h : ((["NoneType", "bool", "int", "str", "tuple", "list", "dict", "float", "bytes"] : List String).all fun t => (fastLookup t nm).isSome) = true) {K : PySem.W.Frag} : ∀ t ∈ (["NoneType", "bool", "int", "str", "tuple", "list", "dict", "float", "bytes"] : List String), (PySem.W.findIn K (.type t) nm).isSome = true := fun t ht => List.all_eq_true.mp h t ht
theorem binT_or {K : PySem.W.Frag} {C : Addr} (h : PySem.W.findIn K (.ref C) "__ror__" = some none) (sn : SubN K C) : BinT K C "or" := ⟨⟨none, h, .inl rfl⟩, bin_ty fun t ht => ⟨lk_types (by decide +kernel) t ht, lk_types (by decide +kernel) t ht⟩, sn⟩
theorem binT_and {K : PySem.W.Frag} {C : Addr} (h : PySem.W.findIn K (.ref C) "__rand__" = some none) (sn : SubN K C) : BinT K C "and" := ⟨⟨none, h, .inl rfl⟩, bin_ty fun t ht => ⟨lk_types (by decide +kernel) t ht, lk_types (by decide +kernel) t ht⟩, sn⟩
theorem binT_sub {K : PySem.W.Frag} {C : Addr} (h : PySem.W.findIn K (.ref C) "__rsub__" = some none) (sn : SubN K C) : BinT K C "sub" := ⟨⟨none, h, .inl rfl⟩, bin_ty fun t ht => ⟨lk_types (by decide +kernel) t ht, lk_types (by decide +kernel) t ht⟩, sn⟩
theorem binT_add {K : PySem.W.Frag} {C : Addr} (h : PySem.W.findIn K (.ref C) "__radd__" = some none) (sn : SubN K C) : BinT K C "add" := ⟨⟨none, h, .inl rfl⟩, bin_ty fun t ht => ⟨lk_types (by decide +kernel) t ht, lk_types (by decide +kernel) t ht⟩, sn⟩
end Aim

namespace Aim
open PySem PySem.Spec PyProof.Rows L2 RZ
open LamX (TabB Tabs)
theorem strB_all {l : List Str} (h : (l.all fun x => decide (x.length ≤ sizeLine) && x.cps.all (fun c => decide (c < 0x110000))) = true) : ∀ y ∈ l, StrB y := fun y hy => strB_dec (List.all_eq_true.mp h y hy)
theorem fin {l : PySem.W.OpenLaw} {w : World} {K : PySem.W.Frag} {h : Heap} {mg : Str → Option Value} {fa : Addr} {q : Program} (X : K.In h) (G : h.Ns mainGlobals mg) (hfa : mg "law" = some (.ref fa))
    (tabs : ∀ (x : Str) (d : DefRec) (c P : Addr), (recsOf q).find? (fun e => e.name == x) = some d → PySem.W.tabIn K x = some (c, P) → PySem.W.CodeHd h c P ∧ h.get? P = some tab0) (NS : h.NoSeer)
    (q_is_integer : Has K mg "is_integer" (top 6)) (q_is_from : Has K mg "is_from" (top 7)) (q_later : Has K mg "later" (top 17)) (q__law_pot : Has K mg "_law_pot" (top 20)) (q__law_take : Has K mg "_law_take" (top 21)) (q__law_of : Has K mg "_law_of" (top 22)) (q__law_cells : Has K mg "_law_cells" (top 23)) (q__law_same : Has K mg "_law_same" (top 24)) (q__law_is : Has K mg "_law_is" (top 25)) (q__law_odd : Has K mg "_law_odd" (top 26)) (q__law_numbers : Has K mg "_law_numbers" (top 27)) (q__law_sum_right : Has K mg "_law_sum_right" (top 28)) (q__law_on_the_right : Has K mg "_law_on_the_right" (top 29)) (q__law_on_the_left : Has K mg "_law_on_the_left" (top 30)) (q__law_ticks_right : Has K mg "_law_ticks_right" (top 31)) (q__law_right : Has K mg "_law_right" (top 32)) (q_law : Has K mg "law" (top 33)) 
    {t_MOST_TICKS : Tok} {t_MOST_AHEAD : Tok} {AE fI cda cc E_BadTicks E_BadAhead : Addr} {ocI kVI docI pmI ctI cclI clI : Value} {odI anI cddI cldI : Option Addr} {oslI ccsI cslI : Array (Option Value)} {vsI : Array Value} {file : Str} {tf : Tok} {cdD : ClassData} {nm_BadTicks qn_BadTicks : Str} {N_BadTicks : Addr} {bs_BadTicks bm_BadTicks : List Value} {sn_BadTicks sub_BadTicks ab_BadTicks col_BadTicks dd_BadTicks k0_BadTicks k1_BadTicks k2_BadTicks k3_BadTicks k5_BadTicks} {nm_BadAhead qn_BadAhead : Str} {N_BadAhead : Addr} {bs_BadAhead bm_BadAhead : List Value} {sn_BadAhead sub_BadAhead ab_BadAhead col_BadAhead dd_BadAhead k0_BadAhead k1_BadAhead k2_BadAhead k3_BadAhead k5_BadAhead} {C_Person fP_Person KD_Person : Addr} {ocP_Person dcP_Person pmP_Person cdP_Person ctP_Person : Value} {odP_Person anP_Person : Option Addr} {slP_Person : Array (Option Value)} {uk_Person_hold : Tok} {uk_Person_ahead : Tok} {pp_Person_fast gg_Person_fast : Addr} {rr_Person_fast : List Value} {oc_Person_fast kV_Person_fast dc_Person_fast pm_Person_fast cd_Person_fast ct_Person_fast : Value} {od_Person_fast an_Person_fast : Option Addr} {sl_Person_fast : Array (Option Value)} {pp_Person_slow gg_Person_slow : Addr} {rr_Person_slow : List Value} {oc_Person_slow kV_Person_slow dc_Person_slow pm_Person_slow cd_Person_slow ct_Person_slow : Value} {od_Person_slow an_Person_slow : Option Addr} {sl_Person_slow : Array (Option Value)} {pp_Person_hold gg_Person_hold : Addr} {rr_Person_hold : List Value} {oc_Person_hold kV_Person_hold dc_Person_hold pm_Person_hold cd_Person_hold ct_Person_hold : Value} {od_Person_hold an_Person_hold : Option Addr} {sl_Person_hold : Array (Option Value)} {pp_Person_ahead gg_Person_ahead : Addr} {rr_Person_ahead : List Value} {oc_Person_ahead kV_Person_ahead dc_Person_ahead pm_Person_ahead cd_Person_ahead ct_Person_ahead : Value} {od_Person_ahead an_Person_ahead : Option Addr} {sl_Person_ahead : Array (Option Value)} {mm_Person___contains__ : Addr} {moc_Person___contains__ mkV_Person___contains__ mdc_Person___contains__ mpm_Person___contains__ mcd_Person___contains__ mct_Person___contains__ : Value} {mod_Person___contains__ man_Person___contains__ : Option Addr} {msl_Person___contains__ : Array (Option Value)} {mm_Person___add__ : Addr} {moc_Person___add__ mkV_Person___add__ mdc_Person___add__ mpm_Person___add__ mcd_Person___add__ mct_Person___add__ : Value} {mod_Person___add__ man_Person___add__ : Option Addr} {msl_Person___add__ : Array (Option Value)} {mm_Person___radd__ : Addr} {moc_Person___radd__ mkV_Person___radd__ mdc_Person___radd__ mpm_Person___radd__ mcd_Person___radd__ mct_Person___radd__ : Value} {mod_Person___radd__ man_Person___radd__ : Option Addr} {msl_Person___radd__ : Array (Option Value)}
    (z_len : PySem.W.nsIn K mainGlobals "len" = some none)
    (z_int : PySem.W.nsIn K mainGlobals "int" = some none)
    (z_abs : PySem.W.nsIn K mainGlobals "abs" = some none)
    (z_isinstance : PySem.W.nsIn K mainGlobals "isinstance" = some none)
    (z_bool : PySem.W.nsIn K mainGlobals "bool" = some none)
    (z_str : PySem.W.nsIn K mainGlobals "str" = some none)
    (z_list : PySem.W.nsIn K mainGlobals "list" = some none)
    (z_tuple : PySem.W.nsIn K mainGlobals "tuple" = some none)
    (z_range : PySem.W.nsIn K mainGlobals "range" = some none)
    (z_max : PySem.W.nsIn K mainGlobals "max" = some none)
    (z_min : PySem.W.nsIn K mainGlobals "min" = some none)
    (z_all : PySem.W.nsIn K mainGlobals "all" = some none)
    (z_any : PySem.W.nsIn K mainGlobals "any" = some none)
    (z_zip : PySem.W.nsIn K mainGlobals "zip" = some none)
    (z_repr : PySem.W.nsIn K mainGlobals "repr" = some none)
    (z_super : PySem.W.nsIn K mainGlobals "super" = some none)
    (z_sorted : PySem.W.nsIn K mainGlobals "sorted" = some none)
    (z_enumerate : PySem.W.nsIn K mainGlobals "enumerate" = some none)
    (z_dict : PySem.W.nsIn K mainGlobals "dict" = some none)
    (z_set : PySem.W.nsIn K mainGlobals "set" = some none)
    (z_bytes : PySem.W.nsIn K mainGlobals "bytes" = some none)
    (z_sum : PySem.W.nsIn K mainGlobals "sum" = some none)
    (g_MOST_TICKS : PySem.W.nsIn K mainGlobals "MOST_TICKS" = some (some (.int 6 t_MOST_TICKS)))
    (g_MOST_AHEAD : PySem.W.nsIn K mainGlobals "MOST_AHEAD" = some (some (.int 2 t_MOST_AHEAD)))
    (m_AE : PySem.W.nsIn K mainGlobals "AimError" = some (some (.ref AE)))
    (m_BadTicks : PySem.W.nsIn K mainGlobals "BadTicks" = some (some (.ref E_BadTicks)))
    (m_BadAhead : PySem.W.nsIn K mainGlobals "BadAhead" = some (some (.ref E_BadAhead)))
    (iniCT : PySem.W.findIn K (.ref E_BadTicks) "__init__" = some (some (.ref fI)))
    (lI : K.lookup fI = some ⟨ocI, odI, .func (PySem.W.fnX "__init__" "AimError.__init__" (defArgs (inClass (top 1) 0)) (defBody (inClass (top 1) 0)) (defScope (inClass (top 1) 0)) [("__class__", cc)] .none kVI docI pmI anI (.ref cda) ctI), oslI⟩)
    (cI : PySem.W.codeIn K (.ref cda) "AimError.__init__" = true)
    (lcI : K.lookup cda = some ⟨cclI, cddI, .fields vsI, ccsI⟩)
    (e1I : vsI[2]? = some (.str file tf))
    (e2I : ((l.prog.main.file : Str) == file) = true)
    (lccI : K.lookup cc = some ⟨clI, cldI, .cell (some (.ref AE)), cslI⟩)
    (hDI : PySem.W.clsIn K AE = some cdD)
    (tII : PySem.W.typeIn K (.ref fI) = some (.type "function"))
    (topI : (l.prog.main.scope.names.lookup ("super" : Str)).isSome = false)
    (thI : PySem.W.nsIn K cStatics "thirdparty.any" = some none)
    (lc_BadTicks : K.lookup E_BadTicks = some (excClassObj nm_BadTicks qn_BadTicks E_BadTicks N_BadTicks bs_BadTicks bm_BadTicks true sn_BadTicks sub_BadTicks ab_BadTicks col_BadTicks dd_BadTicks k0_BadTicks k1_BadTicks k2_BadTicks k3_BadTicks k5_BadTicks "ValueError.__new__"))
    (bm_BadTicks : PySem.HandSPX.refsVE bm_BadTicks = true)
    (sa_BadTicks : PySem.W.findIn K (.ref E_BadTicks) "__setattr__" = some (some (.builtin "object.__setattr__")))
    (ex_BadTicks : PySem.W.subIn K (.ref E_BadTicks) (.type "BaseException") = some true)
    (ty_BadTicks : PySem.W.typeIn K (.ref E_BadTicks) = some (.type "type"))
    (kc_BadTicks : PySem.W.keepIn K (.ref E_BadTicks) = true)
    (ga_BadTicks : PySem.W.findIn K (.ref E_BadTicks) "__getattribute__" = some (some (.builtin "BaseException.__getattribute__")))
    (gg_BadTicks : PySem.W.findIn K (.ref E_BadTicks) "__getattr__" = some none)
    (hd_BadTicks : PySem.W.hasDictIn K E_BadTicks = true)
    (sb_BadTicks : PySem.W.mroIn K E_BadTicks (.ref AE) = some true)
    (su_BadTicks : PySem.W.ks_superIn K E_BadTicks AE "__init__" = some (some (.builtin "ValueError.__init__")))
    (ve_BadTicks : PySem.W.subIn K (.ref E_BadTicks) (.type "ValueError") = some true)
    (nv_BadTicks : PySem.W.findIn K (.ref E_BadTicks) "value" = some none)
    (in_BadTicks : PySem.W.findIn K (.ref E_BadTicks) "__init__" = some (some (.ref fI)))
    (ow_BadTicks : PySem.W.findIn K (.ref E_BadTicks) "__class__" = some (some (.builtin "object.__class__")))
    (ob_BadTicks : PySem.W.mroIn K E_BadTicks (.type "object") = some true)
    (x_BadTicks : PySem.W.exmOne K (.ref E_BadTicks) (.ref AE) = some true)
    (i_BadTicks : PySem.W.kitOne K (.ref E_BadTicks) (.ref E_BadTicks) = some true)
    (lc_BadAhead : K.lookup E_BadAhead = some (excClassObj nm_BadAhead qn_BadAhead E_BadAhead N_BadAhead bs_BadAhead bm_BadAhead true sn_BadAhead sub_BadAhead ab_BadAhead col_BadAhead dd_BadAhead k0_BadAhead k1_BadAhead k2_BadAhead k3_BadAhead k5_BadAhead "ValueError.__new__"))
    (bm_BadAhead : PySem.HandSPX.refsVE bm_BadAhead = true)
    (sa_BadAhead : PySem.W.findIn K (.ref E_BadAhead) "__setattr__" = some (some (.builtin "object.__setattr__")))
    (ex_BadAhead : PySem.W.subIn K (.ref E_BadAhead) (.type "BaseException") = some true)
    (ty_BadAhead : PySem.W.typeIn K (.ref E_BadAhead) = some (.type "type"))
    (kc_BadAhead : PySem.W.keepIn K (.ref E_BadAhead) = true)
    (ga_BadAhead : PySem.W.findIn K (.ref E_BadAhead) "__getattribute__" = some (some (.builtin "BaseException.__getattribute__")))
    (gg_BadAhead : PySem.W.findIn K (.ref E_BadAhead) "__getattr__" = some none)
    (hd_BadAhead : PySem.W.hasDictIn K E_BadAhead = true)
    (sb_BadAhead : PySem.W.mroIn K E_BadAhead (.ref AE) = some true)
    (su_BadAhead : PySem.W.ks_superIn K E_BadAhead AE "__init__" = some (some (.builtin "ValueError.__init__")))
    (ve_BadAhead : PySem.W.subIn K (.ref E_BadAhead) (.type "ValueError") = some true)
    (nv_BadAhead : PySem.W.findIn K (.ref E_BadAhead) "value" = some none)
    (in_BadAhead : PySem.W.findIn K (.ref E_BadAhead) "__init__" = some (some (.ref fI)))
    (ow_BadAhead : PySem.W.findIn K (.ref E_BadAhead) "__class__" = some (some (.builtin "object.__class__")))
    (ob_BadAhead : PySem.W.mroIn K E_BadAhead (.type "object") = some true)
    (x_BadAhead : PySem.W.exmOne K (.ref E_BadAhead) (.ref AE) = some true)
    (i_BadAhead : PySem.W.kitOne K (.ref E_BadAhead) (.ref E_BadAhead) = some true)
    (gtO : PySem.W.specialIn K (.builtin "object.__class__") "__get__" = some (some (.builtin "getset_descriptor.__get__")))
    (tkO : PySem.W.takesIn K (.builtin "object.__class__") = some true)
    (mC_Person : PySem.W.nsIn K mainGlobals "Person" = some (some (.ref C_Person)))
    (aP_Person : PySem.W.findIn K (.ref C_Person) "__init__" = some (some (.ref fP_Person)))
    (iP_Person : PySem.W.isFn K (.ref fP_Person) = true)
    (lP_Person : K.lookup fP_Person = some ⟨ocP_Person, odP_Person, .func (PySem.W.fnOf "__init__" "Person.__init__" (defArgs (inClass (top 18) 0)) (defBody (inClass (top 18) 0)) (defScope (inClass (top 18) 0)) .none (.ref KD_Person) dcP_Person pmP_Person anP_Person cdP_Person ctP_Person), slP_Person⟩)
    (dk_Person_hold : PySem.W.nsIn K KD_Person "hold" = some (some (.int 0 uk_Person_hold)))
    (dk_Person_ahead : PySem.W.nsIn K KD_Person "ahead" = some (some (.int 1 uk_Person_ahead)))
    (cP_Person : PySem.W.codeIn K cdP_Person "Person.__init__" = true)
    (kP_Person : PySem.W.keepIn K (.ref fP_Person) = true)
    (pg_Person : PySem.W.plainGet K C_Person Str.empty = true)
    (hdP_Person : PySem.W.hasDictIn K C_Person = true)
    (po_Person : PySem.W.plainOver K C_Person = true)
    (saP_Person : PySem.W.findIn K (.ref C_Person) "__setattr__" = some (some (.builtin "object.__setattr__")))
    (mkP_Person : PySem.W.makesIn K C_Person = true)
    (kcP_Person : PySem.W.keepIn K (.ref C_Person) = true)
    (nf_Person_own_fast : PySem.W.findIn K (.ref C_Person) "own_fast" = some none)
    (nf_Person_own_slow : PySem.W.findIn K (.ref C_Person) "own_slow" = some none)
    (nf_Person_own_hold : PySem.W.findIn K (.ref C_Person) "own_hold" = some none)
    (nf_Person_own_ahead : PySem.W.findIn K (.ref C_Person) "own_ahead" = some none)
    (pa_Person_fast : PySem.W.findIn K (.ref C_Person) "fast" = some (some (.ref pp_Person_fast)))
    (pt_Person_fast : PySem.W.specialIn K (.ref pp_Person_fast) "__get__" = some (some (.builtin "property.__get__")))
    (pk_Person_fast : PySem.W.takesIn K (.ref pp_Person_fast) = some true)
    (pr_Person_fast : PySem.W.recIn K pp_Person_fast "property" = some (.ref gg_Person_fast :: rr_Person_fast))
    (pl_Person_fast : K.lookup gg_Person_fast = some ⟨oc_Person_fast, od_Person_fast, .func (PySem.W.fnOf "fast" "Person.fast" (defArgs (inClass (top 18) 1)) (defBody (inClass (top 18) 1)) (defScope (inClass (top 18) 1)) .none kV_Person_fast dc_Person_fast pm_Person_fast an_Person_fast cd_Person_fast ct_Person_fast), sl_Person_fast⟩)
    (pc_Person_fast : PySem.W.codeIn K cd_Person_fast "Person.fast" = true)
    (pq_Person_fast : PySem.W.keepIn K (.ref gg_Person_fast) = true)
    (pa_Person_slow : PySem.W.findIn K (.ref C_Person) "slow" = some (some (.ref pp_Person_slow)))
    (pt_Person_slow : PySem.W.specialIn K (.ref pp_Person_slow) "__get__" = some (some (.builtin "property.__get__")))
    (pk_Person_slow : PySem.W.takesIn K (.ref pp_Person_slow) = some true)
    (pr_Person_slow : PySem.W.recIn K pp_Person_slow "property" = some (.ref gg_Person_slow :: rr_Person_slow))
    (pl_Person_slow : K.lookup gg_Person_slow = some ⟨oc_Person_slow, od_Person_slow, .func (PySem.W.fnOf "slow" "Person.slow" (defArgs (inClass (top 18) 2)) (defBody (inClass (top 18) 2)) (defScope (inClass (top 18) 2)) .none kV_Person_slow dc_Person_slow pm_Person_slow an_Person_slow cd_Person_slow ct_Person_slow), sl_Person_slow⟩)
    (pc_Person_slow : PySem.W.codeIn K cd_Person_slow "Person.slow" = true)
    (pq_Person_slow : PySem.W.keepIn K (.ref gg_Person_slow) = true)
    (pa_Person_hold : PySem.W.findIn K (.ref C_Person) "hold" = some (some (.ref pp_Person_hold)))
    (pt_Person_hold : PySem.W.specialIn K (.ref pp_Person_hold) "__get__" = some (some (.builtin "property.__get__")))
    (pk_Person_hold : PySem.W.takesIn K (.ref pp_Person_hold) = some true)
    (pr_Person_hold : PySem.W.recIn K pp_Person_hold "property" = some (.ref gg_Person_hold :: rr_Person_hold))
    (pl_Person_hold : K.lookup gg_Person_hold = some ⟨oc_Person_hold, od_Person_hold, .func (PySem.W.fnOf "hold" "Person.hold" (defArgs (inClass (top 18) 3)) (defBody (inClass (top 18) 3)) (defScope (inClass (top 18) 3)) .none kV_Person_hold dc_Person_hold pm_Person_hold an_Person_hold cd_Person_hold ct_Person_hold), sl_Person_hold⟩)
    (pc_Person_hold : PySem.W.codeIn K cd_Person_hold "Person.hold" = true)
    (pq_Person_hold : PySem.W.keepIn K (.ref gg_Person_hold) = true)
    (pa_Person_ahead : PySem.W.findIn K (.ref C_Person) "ahead" = some (some (.ref pp_Person_ahead)))
    (pt_Person_ahead : PySem.W.specialIn K (.ref pp_Person_ahead) "__get__" = some (some (.builtin "property.__get__")))
    (pk_Person_ahead : PySem.W.takesIn K (.ref pp_Person_ahead) = some true)
    (pr_Person_ahead : PySem.W.recIn K pp_Person_ahead "property" = some (.ref gg_Person_ahead :: rr_Person_ahead))
    (pl_Person_ahead : K.lookup gg_Person_ahead = some ⟨oc_Person_ahead, od_Person_ahead, .func (PySem.W.fnOf "ahead" "Person.ahead" (defArgs (inClass (top 18) 4)) (defBody (inClass (top 18) 4)) (defScope (inClass (top 18) 4)) .none kV_Person_ahead dc_Person_ahead pm_Person_ahead an_Person_ahead cd_Person_ahead ct_Person_ahead), sl_Person_ahead⟩)
    (pc_Person_ahead : PySem.W.codeIn K cd_Person_ahead "Person.ahead" = true)
    (pq_Person_ahead : PySem.W.keepIn K (.ref gg_Person_ahead) = true)
    (ma_Person___contains__ : PySem.W.findIn K (.ref C_Person) "__contains__" = some (some (.ref mm_Person___contains__)))
    (mi_Person___contains__ : PySem.W.isFn K (.ref mm_Person___contains__) = true)
    (ml_Person___contains__ : K.lookup mm_Person___contains__ = some ⟨moc_Person___contains__, mod_Person___contains__, .func (PySem.W.fnOf "__contains__" "Person.__contains__" (defArgs (inClass (top 18) 5)) (defBody (inClass (top 18) 5)) (defScope (inClass (top 18) 5)) .none mkV_Person___contains__ mdc_Person___contains__ mpm_Person___contains__ man_Person___contains__ mcd_Person___contains__ mct_Person___contains__), msl_Person___contains__⟩)
    (mc_Person___contains__ : PySem.W.codeIn K mcd_Person___contains__ "Person.__contains__" = true)
    (mq_Person___contains__ : PySem.W.keepIn K (.ref mm_Person___contains__) = true)
    (ma_Person___add__ : PySem.W.findIn K (.ref C_Person) "__add__" = some (some (.ref mm_Person___add__)))
    (mi_Person___add__ : PySem.W.isFn K (.ref mm_Person___add__) = true)
    (ml_Person___add__ : K.lookup mm_Person___add__ = some ⟨moc_Person___add__, mod_Person___add__, .func (PySem.W.fnOf "__add__" "Person.__add__" (defArgs (inClass (top 18) 12)) (defBody (inClass (top 18) 12)) (defScope (inClass (top 18) 12)) .none mkV_Person___add__ mdc_Person___add__ mpm_Person___add__ man_Person___add__ mcd_Person___add__ mct_Person___add__), msl_Person___add__⟩)
    (mc_Person___add__ : PySem.W.codeIn K mcd_Person___add__ "Person.__add__" = true)
    (mq_Person___add__ : PySem.W.keepIn K (.ref mm_Person___add__) = true)
    (ma_Person___radd__ : PySem.W.findIn K (.ref C_Person) "__radd__" = some (some (.ref mm_Person___radd__)))
    (mi_Person___radd__ : PySem.W.isFn K (.ref mm_Person___radd__) = true)
    (ml_Person___radd__ : K.lookup mm_Person___radd__ = some ⟨moc_Person___radd__, mod_Person___radd__, .func (PySem.W.fnOf "__radd__" "Person.__radd__" (defArgs (inClass (top 18) 13)) (defBody (inClass (top 18) 13)) (defScope (inClass (top 18) 13)) .none mkV_Person___radd__ mdc_Person___radd__ mpm_Person___radd__ man_Person___radd__ mcd_Person___radd__ mct_Person___radd__), msl_Person___radd__⟩)
    (mc_Person___radd__ : PySem.W.codeIn K mcd_Person___radd__ "Person.__radd__" = true)
    (mq_Person___radd__ : PySem.W.keepIn K (.ref mm_Person___radd__) = true)
    (ow_Person : PySem.W.findIn K (.ref C_Person) "__class__" = some (some (.builtin "object.__class__")))
    (ob_Person : PySem.W.mroIn K C_Person (.type "object") = some true)
    (ki_Person : PySem.W.kitOne K (.ref C_Person) (.ref C_Person) = some true)
    (kn_Person_NoneType : PySem.W.kitOne K (.type "NoneType") (.ref C_Person) = some false)
    (kn_Person_bool : PySem.W.kitOne K (.type "bool") (.ref C_Person) = some false)
    (kn_Person_int : PySem.W.kitOne K (.type "int") (.ref C_Person) = some false)
    (kn_Person_str : PySem.W.kitOne K (.type "str") (.ref C_Person) = some false)
    (kn_Person_bytes : PySem.W.kitOne K (.type "bytes") (.ref C_Person) = some false)
    (kn_Person_tuple : PySem.W.kitOne K (.type "tuple") (.ref C_Person) = some false)
    (kn_Person_list : PySem.W.kitOne K (.type "list") (.ref C_Person) = some false)
    (kn_Person_dict : PySem.W.kitOne K (.type "dict") (.ref C_Person) = some false)
    (sn_Person_NoneType : PySem.W.subIn K (.type "NoneType") (.ref C_Person) = some false)
    (sn_Person_bool : PySem.W.subIn K (.type "bool") (.ref C_Person) = some false)
    (sn_Person_int : PySem.W.subIn K (.type "int") (.ref C_Person) = some false)
    (sn_Person_str : PySem.W.subIn K (.type "str") (.ref C_Person) = some false)
    (sn_Person_tuple : PySem.W.subIn K (.type "tuple") (.ref C_Person) = some false)
    (sn_Person_list : PySem.W.subIn K (.type "list") (.ref C_Person) = some false)
    (sn_Person_dict : PySem.W.subIn K (.type "dict") (.ref C_Person) = some false)
    (sn_Person_float : PySem.W.subIn K (.type "float") (.ref C_Person) = some false)
    (sn_Person_bytes : PySem.W.subIn K (.type "bytes") (.ref C_Person) = some false)
    (sf_Person : PySem.W.selfFirst K C_Person = true)
    (sc_Person_NoneType : PySem.W.subIn K (.ref C_Person) (.type "NoneType") = some false)
    (sc_Person_bool : PySem.W.subIn K (.ref C_Person) (.type "bool") = some false)
    (sc_Person_int : PySem.W.subIn K (.ref C_Person) (.type "int") = some false)
    (sc_Person_dict : PySem.W.subIn K (.ref C_Person) (.type "dict") = some false) :
    AtLaw l w K 17 63 "_law_script" mg fa h := by
  have T : Blt mg := ⟨PySem.W.mg_none_of X G z_len, PySem.W.mg_none_of X G z_int, PySem.W.mg_none_of X G z_abs, PySem.W.mg_none_of X G z_isinstance, PySem.W.mg_none_of X G z_bool, PySem.W.mg_none_of X G z_str, PySem.W.mg_none_of X G z_list, PySem.W.mg_none_of X G z_tuple, PySem.W.mg_none_of X G z_range, PySem.W.mg_none_of X G z_max, PySem.W.mg_none_of X G z_min, PySem.W.mg_none_of X G z_all, PySem.W.mg_none_of X G z_any, PySem.W.mg_none_of X G z_zip, PySem.W.mg_none_of X G z_repr, PySem.W.mg_none_of X G z_super, PySem.W.mg_none_of X G z_sorted, PySem.W.mg_none_of X G z_enumerate, PySem.W.mg_none_of X G z_dict, PySem.W.mg_none_of X G z_set, PySem.W.mg_none_of X G z_bytes, PySem.W.mg_none_of X G z_sum⟩
  have YT : CstT K mg := ⟨gc_int X G g_MOST_TICKS, gc_int X G g_MOST_AHEAD⟩
  have V_Person : ClsPerson K mg C_Person := ⟨⟨pg_Person, hdP_Person, po_Person, saP_Person⟩, PySem.W.mg_of X G mC_Person, nf_Person_own_fast, nf_Person_own_slow, nf_Person_own_hold, nf_Person_own_ahead, ⟨⟨pp_Person_fast, gg_Person_fast, _, ⟨pa_Person_fast, pt_Person_fast, pk_Person_fast, _, pr_Person_fast⟩, fun_mk pl_Person_fast pc_Person_fast pq_Person_fast, nf_Person_own_fast⟩⟩, ⟨⟨pp_Person_slow, gg_Person_slow, _, ⟨pa_Person_slow, pt_Person_slow, pk_Person_slow, _, pr_Person_slow⟩, fun_mk pl_Person_slow pc_Person_slow pq_Person_slow, nf_Person_own_slow⟩⟩, ⟨⟨pp_Person_hold, gg_Person_hold, _, ⟨pa_Person_hold, pt_Person_hold, pk_Person_hold, _, pr_Person_hold⟩, fun_mk pl_Person_hold pc_Person_hold pq_Person_hold, nf_Person_own_hold⟩⟩, ⟨⟨pp_Person_ahead, gg_Person_ahead, _, ⟨pa_Person_ahead, pt_Person_ahead, pk_Person_ahead, _, pr_Person_ahead⟩, fun_mk pl_Person_ahead pc_Person_ahead pq_Person_ahead, nf_Person_own_ahead⟩⟩⟩
  have MK_Person : MkHK K C_Person "Person.__init__" (inClass (top 18) 0) [("hold", .int 0), ("ahead", .int 1)] := ⟨fP_Person, _, ⟨⟨ocP_Person, odP_Person, _, _, dcP_Person, pmP_Person, anP_Person, cdP_Person, ctP_Person, slP_Person, rfl, lP_Person, cP_Person, .inl ⟨rfl, rfl⟩, .inr ⟨KD_Person, rfl, fun q hq => by
    simp only [List.mem_cons, List.not_mem_nil, or_false] at hq
    rcases hq with rfl | rfl
    · exact ⟨_, dk_Person_hold, _, rfl⟩
    · exact ⟨_, dk_Person_ahead, _, rfl⟩
    ⟩⟩, kP_Person⟩, ⟨mkP_Person, aP_Person, iP_Person, kcP_Person⟩⟩
  have MM_Person___contains__ : MdH K C_Person "__contains__" "Person.__contains__" (inClass (top 18) 5) := ⟨mm_Person___contains__, _, fun_mk (st := (inClass (top 18) 5)) ml_Person___contains__ mc_Person___contains__ mq_Person___contains__, ma_Person___contains__, mi_Person___contains__⟩
  have MM_Person___add__ : MdH K C_Person "__add__" "Person.__add__" (inClass (top 18) 12) := ⟨mm_Person___add__, _, fun_mk (st := (inClass (top 18) 12)) ml_Person___add__ mc_Person___add__ mq_Person___add__, ma_Person___add__, mi_Person___add__⟩
  have MM_Person___radd__ : MdH K C_Person "__radd__" "Person.__radd__" (inClass (top 18) 13) := ⟨mm_Person___radd__, _, fun_mk (st := (inClass (top 18) 13)) ml_Person___radd__ mc_Person___radd__ mq_Person___radd__, ma_Person___radd__, mi_Person___radd__⟩
  have IT_Person : InsT K C_Person := ⟨⟨pg_Person, hdP_Person, po_Person, saP_Person⟩, ow_Person, gtO, tkO, ob_Person, ki_Person, fun t ht => by
    simp only [List.mem_cons, List.not_mem_nil, or_false] at ht
    rcases ht with rfl | rfl | rfl | rfl | rfl | rfl | rfl | rfl
    · exact kn_Person_NoneType
    · exact kn_Person_bool
    · exact kn_Person_int
    · exact kn_Person_str
    · exact kn_Person_bytes
    · exact kn_Person_tuple
    · exact kn_Person_list
    · exact kn_Person_dict
    ⟩
  have SN_Person : SubN K C_Person := fun t ht => by
    simp only [List.mem_cons, List.not_mem_nil, or_false] at ht
    rcases ht with rfl | rfl | rfl | rfl | rfl | rfl | rfl | rfl | rfl
    · exact sn_Person_NoneType
    · exact sn_Person_bool
    · exact sn_Person_int
    · exact sn_Person_str
    · exact sn_Person_tuple
    · exact sn_Person_list
    · exact sn_Person_dict
    · exact sn_Person_float
    · exact sn_Person_bytes
  have Z : ErrP8 l.prog K mg (inClass (top 1) 0) fI AE E_BadTicks E_BadAhead := ⟨aimI_mk ⟨⟨_, _, _, _, _, _, _, _, _, _, _, _, rfl, fun env => ⟨_, rfl⟩⟩, rfl, ⟨_, _, _, _, rfl⟩⟩ lI cI lcI e1I e2I lccI hDI tII topI thI, aimC_mk lc_BadTicks bm_BadTicks sa_BadTicks ex_BadTicks ty_BadTicks kc_BadTicks ga_BadTicks gg_BadTicks hd_BadTicks sb_BadTicks su_BadTicks ve_BadTicks nv_BadTicks in_BadTicks ow_BadTicks gtO tkO ob_BadTicks, PySem.W.mg_of X G m_BadTicks, aimC_mk lc_BadAhead bm_BadAhead sa_BadAhead ex_BadAhead ty_BadAhead kc_BadAhead ga_BadAhead gg_BadAhead hd_BadAhead sb_BadAhead su_BadAhead ve_BadAhead nv_BadAhead in_BadAhead ow_BadAhead gtO tkO ob_BadAhead, PySem.W.mg_of X G m_BadAhead⟩
  refine at_lawS (TT := []) (cs := []) q_law hfa (fun p hp => ?_) (fun p hp => ?_) (fun _ _ _ _ _ _ _ => rfl) NS (fun base SY TB => ?_)
  · cases hp
  · cases hp
  · have TTn : ([] : List (Addr × Str)).map Prod.fst = [] := rfl
    have Dint := ok_is_integer (P := l.prog) (w := w) (base := base) (TT := []) (G := false) q_is_integer T
    have Dfrom := ok_is_from (G := false) q_is_from T Dint
    have MP := perP_kw9 (ok_personD MK_Person V_Person Z YT T Dfrom) (by simp)
    have Dlat := ok_later (G := false) q_later T V_Person Z YT MP Dfrom
    have Mhas := ok_perHas MM_Person___contains__ V_Person T Dint
    have Madd := ok_perAdd MM_Person___add__ V_Person T Dlat
    have Mradd := ok_perRadd MM_Person___radd__ V_Person T Dlat
    have Dtake := ok_take (P := l.prog) (w := w) (base := base) (TT := []) (G := false) q__law_take T
    have Dof := ok_of (G := false) q__law_of T Dtake
    have Dcells := ok_cells (P := l.prog) (w := w) (base := base) (TT := []) (G := false) q__law_cells T
    have Dpot := ok_pot (P := l.prog) (w := w) (base := base) (TT := []) (G := false) q__law_pot T
    have Dis := ok_is (P := l.prog) (w := w) (base := base) (TT := []) (G := false) q__law_is T
    have Dsame := ok_same (G := false) q__law_same T Dis 7
    have Dodd := ok_odd (G := false) q__law_odd T Dof
    have Dnum := ok_numbersL (P := l.prog) (w := w) (base := base) (TT := []) (G := false) q__law_numbers T V_Person
    have Dsum := ok_sum SY q__law_sum_right T Z i_BadTicks V_Person IT_Person Dis Dnum Dsame
    have Badd : BinT K C_Person "add" := ⟨⟨_, ma_Person___radd__, .inr ⟨_, rfl⟩⟩, bin_ty fun t ht => ⟨lk_types (by decide +kernel) t ht, lk_types (by decide +kernel) t ht⟩, SN_Person⟩
    have SC := subC4 sc_Person_NoneType sc_Person_bool sc_Person_int sc_Person_dict
    have Don := ok_on_right (G := false) q__law_on_the_right T (PySem.W.mg_of X G m_AE) x_BadTicks V_Person sf_Person Badd Madd
    have Dol := ok_on_left (G := false) q__law_on_the_left T (PySem.W.mg_of X G m_AE) x_BadTicks V_Person sf_Person ⟨_, ma_Person___add__⟩ SC Mradd
    have Dti := ok_ticks SY q__law_ticks_right T V_Person Mhas Dis Dsame Don Dol Dsum
    have Dri := ok_rightT SY q__law_right T V_Person MP Dtake Dof Dodd Dsame Dnum Dti
    exact ok_lawT q_law T Dcells Dpot Dri
end Aim

open PySem PySem.W PyProof.Rows in
set_option maxRecDepth 100000 in
set_option maxHeartbeats 0 in
theorem PySem.Challenge.cw_aimedpresses_k09_ticks_of_persons_holds : PySem.Challenge.rw_aimedpresses_k09_ticks_of_persons.Holds := by
  w_on; o_law; k_head; (case hw => w_witness2)
  k_fill
  refine Aim.walk_law (l := PySem.Challenge.rw_aimedpresses_k09_ticks_of_persons) (n := 63) (k := 17) (x := "_law_script") rfl (by decide) rfl ⟨rfl, by decide, by decide⟩ (fun w h Y => by first | exact PySem.W.km_in_of Y | exact PySem.W.kIn_of Y) ?F
  case F =>
    intro w mg fa h Y KX G hmg tabs seer
    have q_is_integer : Aim.Has (L2.KOf KX) mg "is_integer" (Aim.top 6) := by
      refine' Aim.has_mk KX G ?a ?l ?c ?k
      (case a => k_is)
      (case l => k_is)
      (case c => k_is)
      (case k => k_is)
    have q_is_from : Aim.Has (L2.KOf KX) mg "is_from" (Aim.top 7) := by
      refine' Aim.has_mk KX G ?a ?l ?c ?k
      (case a => k_is)
      (case l => k_is)
      (case c => k_is)
      (case k => k_is)
    have q_later : Aim.Has (L2.KOf KX) mg "later" (Aim.top 17) := by
      refine' Aim.has_mk KX G ?a ?l ?c ?k
      (case a => k_is)
      (case l => k_is)
      (case c => k_is)
      (case k => k_is)
    have q__law_pot : Aim.Has (L2.KOf KX) mg "_law_pot" (Aim.top 20) := by
      refine' Aim.has_mk KX G ?a ?l ?c ?k
      (case a => k_is)
      (case l => k_is)
      (case c => k_is)
      (case k => k_is)
    have q__law_take : Aim.Has (L2.KOf KX) mg "_law_take" (Aim.top 21) := by
      refine' Aim.has_mk KX G ?a ?l ?c ?k
      (case a => k_is)
      (case l => k_is)
      (case c => k_is)
      (case k => k_is)
    have q__law_of : Aim.Has (L2.KOf KX) mg "_law_of" (Aim.top 22) := by
      refine' Aim.has_mk KX G ?a ?l ?c ?k
      (case a => k_is)
      (case l => k_is)
      (case c => k_is)
      (case k => k_is)
    have q__law_cells : Aim.Has (L2.KOf KX) mg "_law_cells" (Aim.top 23) := by
      refine' Aim.has_mk KX G ?a ?l ?c ?k
      (case a => k_is)
      (case l => k_is)
      (case c => k_is)
      (case k => k_is)
    have q__law_same : Aim.Has (L2.KOf KX) mg "_law_same" (Aim.top 24) := by
      refine' Aim.has_mk KX G ?a ?l ?c ?k
      (case a => k_is)
      (case l => k_is)
      (case c => k_is)
      (case k => k_is)
    have q__law_is : Aim.Has (L2.KOf KX) mg "_law_is" (Aim.top 25) := by
      refine' Aim.has_mk KX G ?a ?l ?c ?k
      (case a => k_is)
      (case l => k_is)
      (case c => k_is)
      (case k => k_is)
    have q__law_odd : Aim.Has (L2.KOf KX) mg "_law_odd" (Aim.top 26) := by
      refine' Aim.has_mk KX G ?a ?l ?c ?k
      (case a => k_is)
      (case l => k_is)
      (case c => k_is)
      (case k => k_is)
    have q__law_numbers : Aim.Has (L2.KOf KX) mg "_law_numbers" (Aim.top 27) := by
      refine' Aim.has_mk KX G ?a ?l ?c ?k
      (case a => k_is)
      (case l => k_is)
      (case c => k_is)
      (case k => k_is)
    have q__law_sum_right : Aim.Has (L2.KOf KX) mg "_law_sum_right" (Aim.top 28) := by
      refine' Aim.has_mk KX G ?a ?l ?c ?k
      (case a => k_is)
      (case l => k_is)
      (case c => k_is)
      (case k => k_is)
    have q__law_on_the_right : Aim.Has (L2.KOf KX) mg "_law_on_the_right" (Aim.top 29) := by
      refine' Aim.has_mk KX G ?a ?l ?c ?k
      (case a => k_is)
      (case l => k_is)
      (case c => k_is)
      (case k => k_is)
    have q__law_on_the_left : Aim.Has (L2.KOf KX) mg "_law_on_the_left" (Aim.top 30) := by
      refine' Aim.has_mk KX G ?a ?l ?c ?k
      (case a => k_is)
      (case l => k_is)
      (case c => k_is)
      (case k => k_is)
    have q__law_ticks_right : Aim.Has (L2.KOf KX) mg "_law_ticks_right" (Aim.top 31) := by
      refine' Aim.has_mk KX G ?a ?l ?c ?k
      (case a => k_is)
      (case l => k_is)
      (case c => k_is)
      (case k => k_is)
    have q__law_right : Aim.Has (L2.KOf KX) mg "_law_right" (Aim.top 32) := by
      refine' Aim.has_mk KX G ?a ?l ?c ?k
      (case a => k_is)
      (case l => k_is)
      (case c => k_is)
      (case k => k_is)
    have q_law : Aim.Has (L2.KOf KX) mg "law" (Aim.top 33) := by
      refine' Aim.has_mk KX G ?a ?l ?c ?k
      (case a => k_is)
      (case l => k_is)
      (case c => k_is)
      (case k => k_is)
    refine' Aim.fin KX G hmg tabs (seer (by decide +kernel)) q_is_integer q_is_from q_later q__law_pot q__law_take q__law_of q__law_cells q__law_same q__law_is q__law_odd q__law_numbers q__law_sum_right q__law_on_the_right q__law_on_the_left q__law_ticks_right q__law_right q_law ?z_len ?z_int ?z_abs ?z_isinstance ?z_bool ?z_str ?z_list ?z_tuple ?z_range ?z_max ?z_min ?z_all ?z_any ?z_zip ?z_repr ?z_super ?z_sorted ?z_enumerate ?z_dict ?z_set ?z_bytes ?z_sum ?g_MOST_TICKS ?g_MOST_AHEAD ?m_AE ?m_BadTicks ?m_BadAhead ?iniCT ?lI ?cI ?lcI ?e1I ?e2I ?lccI ?hDI ?tII ?topI ?thI ?lc_BadTicks ?bm_BadTicks ?sa_BadTicks ?ex_BadTicks ?ty_BadTicks ?kc_BadTicks ?ga_BadTicks ?gg_BadTicks ?hd_BadTicks ?sb_BadTicks ?su_BadTicks ?ve_BadTicks ?nv_BadTicks ?in_BadTicks ?ow_BadTicks ?ob_BadTicks ?x_BadTicks ?i_BadTicks ?lc_BadAhead ?bm_BadAhead ?sa_BadAhead ?ex_BadAhead ?ty_BadAhead ?kc_BadAhead ?ga_BadAhead ?gg_BadAhead ?hd_BadAhead ?sb_BadAhead ?su_BadAhead ?ve_BadAhead ?nv_BadAhead ?in_BadAhead ?ow_BadAhead ?ob_BadAhead ?x_BadAhead ?i_BadAhead ?gtO ?tkO ?mC_Person ?aP_Person ?iP_Person ?lP_Person ?dk_Person_hold ?dk_Person_ahead ?cP_Person ?kP_Person ?pg_Person ?hdP_Person ?po_Person ?saP_Person ?mkP_Person ?kcP_Person ?nf_Person_own_fast ?nf_Person_own_slow ?nf_Person_own_hold ?nf_Person_own_ahead ?pa_Person_fast ?pt_Person_fast ?pk_Person_fast ?pr_Person_fast ?pl_Person_fast ?pc_Person_fast ?pq_Person_fast ?pa_Person_slow ?pt_Person_slow ?pk_Person_slow ?pr_Person_slow ?pl_Person_slow ?pc_Person_slow ?pq_Person_slow ?pa_Person_hold ?pt_Person_hold ?pk_Person_hold ?pr_Person_hold ?pl_Person_hold ?pc_Person_hold ?pq_Person_hold ?pa_Person_ahead ?pt_Person_ahead ?pk_Person_ahead ?pr_Person_ahead ?pl_Person_ahead ?pc_Person_ahead ?pq_Person_ahead ?ma_Person___contains__ ?mi_Person___contains__ ?ml_Person___contains__ ?mc_Person___contains__ ?mq_Person___contains__ ?ma_Person___add__ ?mi_Person___add__ ?ml_Person___add__ ?mc_Person___add__ ?mq_Person___add__ ?ma_Person___radd__ ?mi_Person___radd__ ?ml_Person___radd__ ?mc_Person___radd__ ?mq_Person___radd__ ?ow_Person ?ob_Person ?ki_Person ?kn_Person_NoneType ?kn_Person_bool ?kn_Person_int ?kn_Person_str ?kn_Person_bytes ?kn_Person_tuple ?kn_Person_list ?kn_Person_dict ?sn_Person_NoneType ?sn_Person_bool ?sn_Person_int ?sn_Person_str ?sn_Person_tuple ?sn_Person_list ?sn_Person_dict ?sn_Person_float ?sn_Person_bytes ?sf_Person ?sc_Person_NoneType ?sc_Person_bool ?sc_Person_int ?sc_Person_dict
    (case z_len => k_is)
    (case z_int => k_is)
    (case z_abs => k_is)
    (case z_isinstance => k_is)
    (case z_bool => k_is)
    (case z_str => k_is)
    (case z_list => k_is)
    (case z_tuple => k_is)
    (case z_range => k_is)
    (case z_max => k_is)
    (case z_min => k_is)
    (case z_all => k_is)
    (case z_any => k_is)
    (case z_zip => k_is)
    (case z_repr => k_is)
    (case z_super => k_is)
    (case z_sorted => k_is)
    (case z_enumerate => k_is)
    (case z_dict => k_is)
    (case z_set => k_is)
    (case z_bytes => k_is)
    (case z_sum => k_is)
    (case g_MOST_TICKS => k_is)
    (case g_MOST_AHEAD => k_is)
    (case m_AE => k_is)
    (case m_BadTicks => k_is)
    (case m_BadAhead => k_is)
    (case iniCT => k_is)
    (case lI => k_is)
    (case cI => k_is)
    (case lcI => k_is)
    (case e1I => rfl)
    (case e2I => kernel_rfl)
    (case lccI => k_is)
    (case hDI => k_is)
    (case tII => k_is)
    (case topI => kernel_rfl)
    (case thI => k_is)
    (case lc_BadTicks => k_is)
    (case bm_BadTicks => kernel_rfl)
    (case sa_BadTicks => k_is)
    (case ex_BadTicks => k_is)
    (case ty_BadTicks => k_is)
    (case kc_BadTicks => k_is)
    (case ga_BadTicks => k_is)
    (case gg_BadTicks => k_is)
    (case hd_BadTicks => k_is)
    (case sb_BadTicks => k_is)
    (case su_BadTicks => kernel_rfl)
    (case ve_BadTicks => k_is)
    (case nv_BadTicks => k_is)
    (case in_BadTicks => k_is)
    (case ow_BadTicks => k_is)
    (case ob_BadTicks => k_is)
    (case x_BadTicks => kernel_rfl)
    (case i_BadTicks => kernel_rfl)
    (case lc_BadAhead => k_is)
    (case bm_BadAhead => kernel_rfl)
    (case sa_BadAhead => k_is)
    (case ex_BadAhead => k_is)
    (case ty_BadAhead => k_is)
    (case kc_BadAhead => k_is)
    (case ga_BadAhead => k_is)
    (case gg_BadAhead => k_is)
    (case hd_BadAhead => k_is)
    (case sb_BadAhead => k_is)
    (case su_BadAhead => kernel_rfl)
    (case ve_BadAhead => k_is)
    (case nv_BadAhead => k_is)
    (case in_BadAhead => k_is)
    (case ow_BadAhead => k_is)
    (case ob_BadAhead => k_is)
    (case x_BadAhead => kernel_rfl)
    (case i_BadAhead => kernel_rfl)
    (case gtO => k_is)
    (case tkO => k_is)
    (case mC_Person => k_is)
    (case aP_Person => k_is)
    (case iP_Person => k_is)
    (case lP_Person => k_is)
    (case dk_Person_hold => k_is)
    (case dk_Person_ahead => k_is)
    (case cP_Person => k_is)
    (case kP_Person => k_is)
    (case pg_Person => k_is)
    (case hdP_Person => k_is)
    (case po_Person => k_is)
    (case saP_Person => k_is)
    (case mkP_Person => k_is)
    (case kcP_Person => k_is)
    (case nf_Person_own_fast => k_is)
    (case nf_Person_own_slow => k_is)
    (case nf_Person_own_hold => k_is)
    (case nf_Person_own_ahead => k_is)
    (case pa_Person_fast => k_is)
    (case pt_Person_fast => k_is)
    (case pk_Person_fast => k_is)
    (case pr_Person_fast => k_is)
    (case pl_Person_fast => k_is)
    (case pc_Person_fast => k_is)
    (case pq_Person_fast => k_is)
    (case pa_Person_slow => k_is)
    (case pt_Person_slow => k_is)
    (case pk_Person_slow => k_is)
    (case pr_Person_slow => k_is)
    (case pl_Person_slow => k_is)
    (case pc_Person_slow => k_is)
    (case pq_Person_slow => k_is)
    (case pa_Person_hold => k_is)
    (case pt_Person_hold => k_is)
    (case pk_Person_hold => k_is)
    (case pr_Person_hold => k_is)
    (case pl_Person_hold => k_is)
    (case pc_Person_hold => k_is)
    (case pq_Person_hold => k_is)
    (case pa_Person_ahead => k_is)
    (case pt_Person_ahead => k_is)
    (case pk_Person_ahead => k_is)
    (case pr_Person_ahead => k_is)
    (case pl_Person_ahead => k_is)
    (case pc_Person_ahead => k_is)
    (case pq_Person_ahead => k_is)
    (case ma_Person___contains__ => k_is)
    (case mi_Person___contains__ => k_is)
    (case ml_Person___contains__ => k_is)
    (case mc_Person___contains__ => k_is)
    (case mq_Person___contains__ => k_is)
    (case ma_Person___add__ => k_is)
    (case mi_Person___add__ => k_is)
    (case ml_Person___add__ => k_is)
    (case mc_Person___add__ => k_is)
    (case mq_Person___add__ => k_is)
    (case ma_Person___radd__ => k_is)
    (case mi_Person___radd__ => k_is)
    (case ml_Person___radd__ => k_is)
    (case mc_Person___radd__ => k_is)
    (case mq_Person___radd__ => k_is)
    (case ow_Person => k_is)
    (case ob_Person => k_is)
    (case ki_Person => kernel_rfl)
    (case kn_Person_NoneType => kernel_rfl)
    (case kn_Person_bool => kernel_rfl)
    (case kn_Person_int => kernel_rfl)
    (case kn_Person_str => kernel_rfl)
    (case kn_Person_bytes => kernel_rfl)
    (case kn_Person_tuple => kernel_rfl)
    (case kn_Person_list => kernel_rfl)
    (case kn_Person_dict => kernel_rfl)
    (case sn_Person_NoneType => kernel_rfl)
    (case sn_Person_bool => kernel_rfl)
    (case sn_Person_int => kernel_rfl)
    (case sn_Person_str => kernel_rfl)
    (case sn_Person_tuple => kernel_rfl)
    (case sn_Person_list => kernel_rfl)
    (case sn_Person_dict => kernel_rfl)
    (case sn_Person_float => kernel_rfl)
    (case sn_Person_bytes => kernel_rfl)
    (case sf_Person => k_is)
    (case sc_Person_NoneType => k_is)
    (case sc_Person_bool => k_is)
    (case sc_Person_int => k_is)
    (case sc_Person_dict => k_is)
