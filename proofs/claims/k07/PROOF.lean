import PyProof.Rows.All
import Wide.All
import OpenK.AllK
import Wide.FinOn
import HandS.ForMost
import HandS.ForExc
import HandS.Wide
import HandS.IsInst
import HandS.Defaults
import HandS.MakeKwOnly
import HandS.Property
import HandS.Strs
import HandS.Flow
import HandS.Zip
import HandS.Lambda
import HandS.ExcSuper
import HandS.ExcInit
import HandS.ExcValue
import HandS.ExcField
import HandS.ExcIs
import KE.KExcSuper
import KE.KExcIs
import HandS.EndTab
import HandS.Conv
import HandS.Walk
import PyProof.NeKinds
import PySem.Challenge.RW_aimedpresses_k07_persons_made
set_option Elab.async false
set_option linter.all false
set_option maxRecDepth 100000
set_option maxHeartbeats 4000000
namespace Aim
open PySem PySem.Spec PyProof.Rows L2
/-! ### draws: the pot, a list of three ints that is known by its bounds alone -/
/-- what the three numbers of a pot keep: n draws at most so far -/
structure PotB (d m t : Int) (n : Nat) : Prop where
  d0 : 0 ≤ d
  m0 : -(2 ^ 62) < m
  m1 : m < 2 ^ 62
  t0 : 0 ≤ t
  t1 : t ≤ n
def PotO (n : Nat) (a : Addr) : HO := .ext fun h => ∃ (d m t : Int) (i0 i1 i2 : Tok) (k : Nat), h.get? a = some { cls := .type "list", data := .seq #[.int d i0, .int m i1, .int t i2] k } ∧ PotB d m t n
theorem PotO.ok {P : Program} {w : World} {H : Hp} {h : Heap} {a : Addr} {n k : Nat} {d m t : Int} {i0 i1 i2 : Tok} (e : h.get? a = some { cls := .type "list", data := .seq #[.int d i0, .int m i1, .int t i2] k }) (b : PotB d m t n) : ObjOk P w H h a (PotO n a) :=
  ⟨⟨d, m, t, i0, i1, i2, k, e, b⟩, ⟨_, e⟩, fun _ _ ⟨d, m, t, i0, i1, i2, k, q, b⟩ f => ⟨d, m, t, i0, i1, i2, k, f _ q, b⟩⟩
theorem PotO.at {P : Program} {w : World} {H : Hp} {h : Heap} {a : Addr} {n : Nat} (hok : HOk P w H h) (e : H a = some (PotO n a)) : ∃ (d m t : Int) (i0 i1 i2 : Tok) (k : Nat), h.get? a = some { cls := .type "list", data := .seq #[.int d i0, .int m i1, .int t i2] k } ∧ PotB d m t n := by
  obtain ⟨x, _, _⟩ := (show ObjOk P w H h a (PotO n a) from hok a _ e)
  exact x
theorem PotB.mono {d m t : Int} {n k : Nat} (b : PotB d m t n) (h : n ≤ k) : PotB d m t k := ⟨b.d0, b.m0, b.m1, b.t0, by have := b.t1; omega⟩

section
variable {X : Cx} {pins : List (Addr × Obj)} {σ : L2.St} {H : Hp} {s : Shared}
/-- what is told of an object is told otherwise -/
theorem retell {a : Addr} {o : HO} (I : Inv X pins σ H s) (mu : Mut (H a)) (there : ∃ u, s.heap.get? a = some u) (new : ObjOk X.prog X.w (upd H a o) s.heap a o) : Inv X pins σ (upd H a o) s :=
  I.write (t' := s.toks) (x := a) (e := a) (o := o) mu (.inl rfl) (fun _ _ _ q => q) there new
theorem upd_self {H : Hp} {a : Addr} {o : HO} (h : H a = some o) : upd H a o = H := by
  funext b
  by_cases e : b = a
  · rw [e, upd_same, h]
  · rw [upd_ne e]
/-- a new list of three numbers is a pot -/
def tPot (te : TE) : TE := fun σ H Q => te σ H fun x H1 => ∃ (p : Addr) (d m t : Int) (n : Nat), x = .ref p ∧ H1 p = some (.lst [.int d, .int m, .int t]) ∧ PotB d m t n ∧ Q (.ref p) (upd H1 p (PotO n p))
theorem pe_pot {e : Expr} {te : TE} (he : PE X e te) : PE X e (tPot te) := by
  refine ⟨fun pins s σ H Q I h => thn (he.run pins s σ H _ I h) fun u s1 ⟨x, H1, I1, r1, p, d, m, t, n, ex, hp, hb, q⟩ => ?_⟩
  subst ex
  obtain ⟨_, its, k, rv, hg⟩ := (show ObjOk X.prog X.w H1 s1.heap p (.lst [.int d, .int m, .int t]) from I1.hok p _ hp)
  cases rv with
  | cons r0 rv =>
    cases rv with
    | cons r1' rv =>
      cases rv with
      | cons r2 rv =>
        cases rv
        obtain ⟨i0, rfl⟩ := r0
        obtain ⟨i1, rfl⟩ := r1'
        obtain ⟨i2, rfl⟩ := r2
        exact ⟨_, _, retell I1 (by rw [hp]; exact True.intro) ⟨_, hg⟩ (PotO.ok hg hb), r1, q⟩
/-- pot[0], pot[1], pot[2] -/
def rIxP : R2 := fun x y H Q => ∃ (p : Addr) (n : Nat) (i : Int), x = .ref p ∧ y = .int i ∧ H p = some (PotO n p) ∧ ((i = 0 ∧ ∀ d : Int, 0 ≤ d → Q (.int d) H) ∨ (i = 1 ∧ ∀ m : Int, -(2 ^ 62) < m → m < 2 ^ 62 → Q (.int m) H) ∨ (i = 2 ∧ ∀ t : Int, 0 ≤ t → t ≤ n → Q (.int t) H))
theorem ix_pot : IxR X rIxP := by
  intro value slice pins s σ H x y v u Q I rx ry ⟨p, n, i, ex, ey, hp, q⟩ hs
  subst ex
  subst ey
  obtain ⟨d, m, t, i0, i1, i2, k, hg, b⟩ := PotO.at I.hok hp
  have I1 : Inv X pins σ (upd H p (.lst [.int d, .int m, .int t])) s :=
    retell I (by rw [hp]; exact True.intro) ⟨_, hg⟩ ⟨by show 3 ≤ sizeLine; decide, [.int d i0, .int m i1, .int t i2], k, .cons ⟨_, rfl⟩ (.cons ⟨_, rfl⟩ (.cons ⟨_, rfl⟩ .nil)), hg⟩
  have back : ∀ {s' : Shared} {z : V} {w : Value}, Inv X pins σ (upd H p (.lst [.int d, .int m, .int t])) s' → RelV z w → Q z H → EP X pins σ Q w s' := fun {s' z w} J rz q => by
    obtain ⟨_, its, k', rv, hg'⟩ := (show ObjOk X.prog X.w (upd H p (.lst [.int d, .int m, .int t])) s'.heap p (.lst [.int d, .int m, .int t]) from J.hok p _ upd_same)
    cases rv with
    | cons r0 rv =>
      cases rv with
      | cons r1' rv =>
        cases rv with
        | cons r2 rv =>
          cases rv
          obtain ⟨j0, rfl⟩ := r0
          obtain ⟨j1, rfl⟩ := r1'
          obtain ⟨j2, rfl⟩ := r2
          have J2 := retell (o := PotO n p) J (by rw [upd_same]; exact True.intro) ⟨_, hg'⟩ (PotO.ok hg' b)
          rw [upd_upd, upd_self hp] at J2
          exact ⟨z, H, J2, rz, q⟩
  have key : ∀ (z : V), atI [V.int d, V.int m, V.int t] i = some z → Q z H → wpAny (model X.prog X.w) X.A (subscriptTail value slice v u) (EP X pins σ Q) X.xe s := fun z hz q =>
    thn (ix_list value slice pins s σ _ (.ref p) (.int i) v u (fun y H' => y = z ∧ H' = upd H p (.lst [.int d, .int m, .int t])) I1 rx ry ⟨p, _, i, z, rfl, rfl, SqL.of upd_same, hz, rfl, rfl⟩ hs) fun w s' ⟨y, H', J, rw', ey, eH⟩ => by
      subst ey
      subst eH
      exact back J rw' q
  rcases q with ⟨e, q⟩ | ⟨e, q⟩ | ⟨e, q⟩
  · subst e
    exact key (.int d) rfl (q d b.d0)
  · subst e
    exact key (.int m) rfl (q m b.m0 b.m1)
  · subst e
    exact key (.int t) rfl (q t b.t0 b.t1)
/-- pot[0] = d; pot[2] = t -/
def rSetP : TSet := fun o i v H Q => ∃ (p : Addr) (n : Nat) (j z : Int), o = .ref p ∧ i = .int j ∧ v = .int z ∧ H p = some (PotO n p) ∧ ((j = 0 ∧ 0 ≤ z ∧ ∃ n' : Nat, n ≤ n' ∧ Q (upd H p (PotO n' p))) ∨ (j = 2 ∧ ∃ n' : Nat, n ≤ n' ∧ 0 ≤ z ∧ z ≤ n' ∧ Q (upd H p (PotO n' p))))
theorem set_pot : PSet X rSetP := by
  intro pins s σ H o i v ov iv u Q I ro ri rv ⟨p, n, j, z, eo, ei, ev, hp, q⟩
  subst eo
  subst ei
  subst ev
  obtain ⟨d, m, t, i0, i1, i2, k, hg, b⟩ := PotO.at I.hok hp
  have I1 : Inv X pins σ (upd H p (.lst [.int d, .int m, .int t])) s :=
    retell I (by rw [hp]; exact True.intro) ⟨_, hg⟩ ⟨by show 3 ≤ sizeLine; decide, [.int d i0, .int m i1, .int t i2], k, .cons ⟨_, rfl⟩ (.cons ⟨_, rfl⟩ (.cons ⟨_, rfl⟩ .nil)), hg⟩
  have back : ∀ {s' : Shared} {d m t : Int} {n' : Nat}, Inv X pins σ (upd (upd H p (.lst [.int d, .int m, .int t])) p (.lst [.int d, .int m, .int t])) s' → PotB d m t n' → Q (upd H p (PotO n' p)) → ∃ H', Inv X pins σ H' s' ∧ Q H' := fun {s' d m t n'} J b q => by
    rw [upd_upd] at J
    obtain ⟨_, its, k', rv, hg'⟩ := (show ObjOk X.prog X.w (upd H p (.lst [.int d, .int m, .int t])) s'.heap p (.lst [.int d, .int m, .int t]) from J.hok p _ upd_same)
    cases rv with
    | cons r0 rv =>
      cases rv with
      | cons r1' rv =>
        cases rv with
        | cons r2 rv =>
          cases rv
          obtain ⟨j0, rfl⟩ := r0
          obtain ⟨j1, rfl⟩ := r1'
          obtain ⟨j2, rfl⟩ := r2
          have J2 := retell (o := PotO n' p) J (by rw [upd_same]; exact True.intro) ⟨_, hg'⟩ (PotO.ok hg' b)
          rw [upd_upd] at J2
          exact ⟨_, J2, q⟩
  rcases q with ⟨e, z0, n', hn, q⟩ | ⟨e, n', hn, z0, z1, q⟩
  · subst e
    refine thn (set_list pins s σ _ (.ref p) (.int 0) (.int z) ov iv u (fun H' => H' = upd (upd H p (.lst [.int d, .int m, .int t])) p (.lst [.int z, .int m, .int t])) I1 ro ri rv ⟨p, _, 0, 0, rfl, rfl, upd_same, rfl, rfl⟩) fun _ s' ⟨H', J, eH⟩ => ?_
    subst eH
    rw [upd_upd] at J
    refine back (s' := s') (d := z) (m := m) (t := t) (n' := n') (by rw [upd_upd]; exact J) ⟨z0, b.m0, b.m1, b.t0, (b.mono hn).t1⟩ q
  · subst e
    refine thn (set_list pins s σ _ (.ref p) (.int 2) (.int z) ov iv u (fun H' => H' = upd (upd H p (.lst [.int d, .int m, .int t])) p (.lst [.int d, .int m, .int z])) I1 ro ri rv ⟨p, _, 2, 2, rfl, rfl, upd_same, rfl, rfl⟩) fun _ s' ⟨H', J, eH⟩ => ?_
    subst eH
    rw [upd_upd] at J
    exact back (s' := s') (d := d) (m := m) (t := z) (n' := n') (by rw [upd_upd]; exact J) ⟨b.d0, b.m0, b.m1, z0, z1⟩ q
/-- powers of great numbers -/
theorem op_powW : OpR X (binaryOp .Pow) (rI (fun i j => 0 ≤ j ∧ (Builtin.Int.intBits i : Int) * j ≤ 2 ^ 27) fun i j => .int (i ^ j.toNat)) := opI fun _ _ _ _ _ _ _ hc q => pow_int hc.1 hc.2 q
end
end Aim

namespace Aim
open PySem PySem.Spec PyProof.Rows L2
/-! ### heaps that grow: all but pots and code tables stands -/
theorem codeO_np {c : Addr} {q : Str} {n : Nat} : LamX.CodeO c q ≠ PotO n c := fun z => by
  unfold LamX.CodeO PotO at z
  injection z with z
  obtain ⟨h, hh⟩ : ∃ h : Heap, h.get? c = some { cls := .type "list", data := .seq #[.int 0 0, .int 0 0, .int 0 0] 0 } := ⟨⟨Array.replicate (c + 1) { cls := .type "list", data := .seq #[.int 0 0, .int 0 0, .int 0 0] 0 }, {}⟩, by simp [Heap.get?]⟩
  have y := congrFun z h
  have q : ∃ (oc : Obj) (vs : Array Value) (t : Tok), h.get? c = some oc ∧ oc.data = .fields vs ∧ vs[1]? = some (.str q t) := by
    rw [y]
    exact ⟨0, 0, 0, 0, 0, 0, 0, hh, ⟨by omega, by decide, by decide, by omega, by omega⟩⟩
  obtain ⟨oe, vs, t, e1, e2, _⟩ := q
  rw [hh] at e1
  cases e1
  cases e2
/-- T: the code tables of the law's lambdas -/
def Ext (T : List (Addr × Str)) (H H' : Hp) : Prop := (∀ b o, H b = some o → (∀ n, o ≠ PotO n b) → (∀ ps, o ≠ .tbl ps) → H' b = some o) ∧ (LamX.Tabs T H → LamX.Tabs T H')
theorem Ext.refl {T : List (Addr × Str)} (H : Hp) : Ext T H H := ⟨fun _ _ e _ _ => e, id⟩
theorem Ext.trans {T : List (Addr × Str)} {H H1 H2 : Hp} (a : Ext T H H1) (b : Ext T H1 H2) : Ext T H H2 := ⟨fun c o e n m => b.1 c o (a.1 c o e n m) n m, fun x => b.2 (a.2 x)⟩
theorem Ext.of {T : List (Addr × Str)} {H H' : Hp} (e : ∀ b o, H b = some o → H' b = some o) : Ext T H H' := ⟨fun b o h _ _ => e b o h, fun t => t.ext e⟩
theorem Ext.new {T : List (Addr × Str)} {H : Hp} {p : Addr} {o : HO} (h : H p = none) : Ext T H (upd H p o) := .of fun b u e => by
  rw [upd_ne (ne_of_none e h)]
  exact e
theorem Ext.pot {T : List (Addr × Str)} {H : Hp} {p : Addr} {n m : Nat} (h : H p = some (PotO n p)) : Ext T H (upd H p (PotO m p)) := by
  have k : ∀ b u, H b = some u → (∀ n, u ≠ PotO n b) → upd H p (PotO m p) b = some u := fun b u e k => by
    by_cases hb : b = p
    · subst hb
      rw [h] at e
      exact absurd (Option.some.inj e).symm (k n)
    · rw [upd_ne hb]
      exact e
  refine ⟨fun b u e q _ => k b u e q, fun t x hx => ?_⟩
  obtain ⟨ps, h1, h2, h3⟩ := t x hx
  refine ⟨ps, k _ _ h1 (fun n z => by unfold PotO at z; cases z), h2, fun pos cv hc => ?_⟩
  obtain ⟨c, e1, e2⟩ := h3 pos cv hc
  exact ⟨c, e1, k _ _ e2 fun n => codeO_np⟩
theorem Ext.lam {T : List (Addr × Str)} {H H' : Hp} (e : LamX.ExtN H H') (t : LamX.Tabs T H') : Ext T H H' := ⟨fun b o h _ n => e b o h n, fun _ => t⟩
theorem lst_np {xs : List V} {n : Nat} {a : Addr} : HO.lst xs ≠ PotO n a := fun z => by
  unfold PotO at z
  cases z
theorem tup_np {xs : List V} {n : Nat} {a : Addr} : HO.tup xs ≠ PotO n a := fun z => by
  unfold PotO at z
  cases z
theorem frz_np {o : Obj} {u : HO} {n : Nat} {a : Addr} : HO.frz o u ≠ PotO n a := fun z => by
  unfold PotO at z
  cases z
theorem dK_np {k : List (Key × V)} {n : Nat} {a : Addr} : HO.dK k ≠ PotO n a := fun z => by
  unfold PotO at z
  cases z
theorem ins_np {C dx : Addr} {fs : List (Str × V)} {n : Nat} {a : Addr} : HO.ins C dx fs ≠ PotO n a := fun z => by
  unfold PotO at z
  cases z
theorem own_np {x : Addr} {n : Nat} {a : Addr} : HO.own x ≠ PotO n a := fun z => by
  unfold PotO at z
  cases z
theorem xd_np {fs : List (Str × V)} {n : Nat} {a : Addr} : HO.xd fs ≠ PotO n a := fun z => by
  unfold PotO at z
  cases z
section
variable {K : PySem.W.Frag} {T : List (Addr × Str)} {H H' : Hp}
theorem Ext.lst {a : Addr} {xs : List V} (e : Ext T H H') (h : H a = some (.lst xs)) : H' a = some (.lst xs) := e.1 a _ h (fun _ => lst_np) fun _ z => nomatch z
theorem Ext.tup {a : Addr} {xs : List V} (e : Ext T H H') (h : H a = some (.tup xs)) : H' a = some (.tup xs) := e.1 a _ h (fun _ => tup_np) fun _ z => nomatch z
theorem Ext.dK {a : Addr} {xs : List (Key × V)} (e : Ext T H H') (h : H a = some (.dK xs)) : H' a = some (.dK xs) := e.1 a _ h (fun _ => dK_np) fun _ z => nomatch z
theorem Ext.ins {a C dx : Addr} {fs : List (Str × V)} (e : Ext T H H') (h : H a = some (.ins C dx fs)) : H' a = some (.ins C dx fs) := e.1 a _ h (fun _ => ins_np) fun _ z => nomatch z
theorem Ext.frz {a : Addr} {o : Obj} {u : HO} (e : Ext T H H') (h : H a = some (.frz o u)) : H' a = some (.frz o u) := e.1 a _ h (fun _ => frz_np) fun _ z => nomatch z
theorem Ext.xd {a : Addr} {fs : List (Str × V)} (e : Ext T H H') (h : H a = some (.xd fs)) : H' a = some (.xd fs) := e.1 a _ h (fun _ => xd_np) fun _ z => nomatch z
theorem Ext.sqL {a : Addr} {xs : List V} (e : Ext T H H') (h : SqL K H a xs) : SqL K H' a xs := by
  rcases h with (h | ⟨o, h⟩) | h
  · exact .inl (.inl (e.lst h))
  · exact .inl (.inr ⟨o, e.frz h⟩)
  · exact .inr h
theorem Ext.sqT {a : Addr} {xs : List V} (e : Ext T H H') (h : SqT K H a xs) : SqT K H' a xs := by
  rcases h with (h | ⟨o, h⟩) | h
  · exact .inl (.inl (e.tup h))
  · exact .inl (.inr ⟨o, e.frz h⟩)
  · exact .inr h
end
/-! ### plain data in the heap -/
def keyD : Key → PyData
  | .inl i => .int i
  | .inr x => .str x
mutual
inductive DD (K : PySem.W.Frag) (H : Hp) : V → PyData → Prop
  | non : DD K H .non .none
  | bl (b : Bool) : DD K H (.bl b) (.bool b)
  | int (i : Int) : DD K H (.int i) (.int i)
  | str (x : Str) : DD K H (.str x) (.str x)
  | lst {a : Addr} {xs : List V} {ds : List PyData} : SqL K H a xs → DDs K H xs ds → DD K H (.ref a) (.list ds)
  | tup {a : Addr} {xs : List V} {ds : List PyData} : SqT K H a xs → DDs K H xs ds → DD K H (.ref a) (.tuple ds)
  | dct {a : Addr} {kvs : List (Key × V)} {ps : List (PyData × PyData)} : H a = some (.dK kvs) → ps.map (·.1) = kvs.map (fun kv => keyD kv.1) → DDs K H (kvs.map (·.2)) (ps.map (·.2)) → DD K H (.ref a) (.dict ps)
inductive DDs (K : PySem.W.Frag) (H : Hp) : List V → List PyData → Prop
  | nil : DDs K H [] []
  | cons {v : V} {vs : List V} {d : PyData} {ds : List PyData} : DD K H v d → DDs K H vs ds → DDs K H (v :: vs) (d :: ds)
end
section
variable {K : PySem.W.Frag} {T : List (Addr × Str)} {H H' : Hp}
mutual
theorem DD.mono (e : Ext T H H') : ∀ {v : V} {d : PyData}, DD K H v d → DD K H' v d
  | _, _, .non => .non
  | _, _, .bl b => .bl b
  | _, _, .int i => .int i
  | _, _, .str x => .str x
  | _, _, .lst hs ha => .lst (e.sqL hs) (DDs.mono e ha)
  | _, _, .tup hs ha => .tup (e.sqT hs) (DDs.mono e ha)
  | _, _, .dct hs hk ha => .dct (e.dK hs) hk (DDs.mono e ha)
theorem DDs.mono (e : Ext T H H') : ∀ {vs : List V} {ds : List PyData}, DDs K H vs ds → DDs K H' vs ds
  | _, _, .nil => .nil
  | _, _, .cons h r => .cons (DD.mono e h) (DDs.mono e r)
end
theorem DDs.length : ∀ {vs : List V} {ds : List PyData}, DDs K H vs ds → vs.length = ds.length
  | _, _, .nil => rfl
  | _, _, .cons _ r => congrArg (· + 1) (DDs.length r)
theorem DDs.get : ∀ {vs : List V} {ds : List PyData} {i : Nat} {v : V}, DDs K H vs ds → vs[i]? = some v → ∃ d, ds[i]? = some d ∧ DD K H v d
  | _, _, _, _, .nil, e => by simp at e
  | _, _, 0, _, .cons h _, e => by
    simp at e
    subst e
    exact ⟨_, rfl, h⟩
  | _, _, i + 1, _, .cons _ r, e => by
    obtain ⟨d, e1, e2⟩ := DDs.get (i := i) r (by simpa using e)
    exact ⟨d, by simpa using e1, e2⟩
theorem DDs.getD : ∀ {vs : List V} {ds : List PyData} {i : Nat} {d : PyData}, DDs K H vs ds → ds[i]? = some d → ∃ v, vs[i]? = some v ∧ DD K H v d
  | _, _, _, _, .nil, e => by simp at e
  | _, _, 0, _, .cons h _, e => by
    simp at e
    subst e
    exact ⟨_, rfl, h⟩
  | _, _, i + 1, _, .cons _ r, e => by
    obtain ⟨d, e1, e2⟩ := DDs.getD (i := i) r (by simpa using e)
    exact ⟨d, by simpa using e1, e2⟩
theorem DDs.append : ∀ {vs us : List V} {ds es : List PyData}, DDs K H vs ds → DDs K H us es → DDs K H (vs ++ us) (ds ++ es)
  | _, _, _, _, .nil, s => s
  | _, _, _, _, .cons h r, s => .cons h (DDs.append r s)
theorem DDs.take : ∀ {vs : List V} {ds : List PyData} (n : Nat), DDs K H vs ds → DDs K H (vs.take n) (ds.take n)
  | _, _, 0, _ => by simp; exact .nil
  | _, _, _ + 1, .nil => by simp; exact .nil
  | _, _, n + 1, .cons h r => .cons h (DDs.take n r)
theorem DDs.drop : ∀ {vs : List V} {ds : List PyData} (n : Nat), DDs K H vs ds → DDs K H (vs.drop n) (ds.drop n)
  | _, _, 0, r => r
  | _, _, _ + 1, .nil => .nil
  | _, _, n + 1, .cons _ r => DDs.drop n r
theorem DDs.reverse : ∀ {vs : List V} {ds : List PyData}, DDs K H vs ds → DDs K H vs.reverse ds.reverse
  | _, _, .nil => .nil
  | _, _, .cons h r => by
    rw [List.reverse_cons, List.reverse_cons]
    exact DDs.append (DDs.reverse r) (.cons h .nil)
theorem DDs.strs : ∀ (xs : List Str), DDs K H (xs.map V.str) (xs.map PyData.str)
  | [] => .nil
  | x :: r => .cons (.str x) (DDs.strs r)
end
/-! ### reading them off the raw heap -/
mutual
def noList : PyData → Bool
  | .none | .bool _ | .int _ | .str _ => true
  | .list _ => false
  | .tuple xs => noLists xs
  | .dict kvs => noListK kvs
def noLists : List PyData → Bool
  | [] => true
  | x :: xs => noList x && noLists xs
def noListK : List (PyData × PyData) → Bool
  | [] => true
  | (_, v) :: r => noList v && noListK r
end
theorem noListK_map : ∀ (ps : List (PyData × PyData)), noListK ps = noLists (ps.map (·.2))
  | [] => rfl
  | (k, v) :: r => by
    show (noList v && noListK r) = (noList v && noLists (r.map (·.2)))
    rw [noListK_map r]
theorem keysRead {P : Program} {w : World} {h : Heap} : ∀ {es : List DictEntry} {kvs : List (Key × Value)}, Pairs (mixKind P w) es kvs → ReadsAll h (es.map (·.key)) (kvs.map fun kv => keyD kv.1) []
  | _, _, .nil => .nil
  | _, _, .cons (e := e) (kv := kv) h1 _ r => by
    have q := keysRead (h := h) r
    have h1 : keyIs kv.1 e.key = true := h1
    have z : Reads h e.key (keyD kv.1) [] := by
      obtain ⟨k, u⟩ := kv
      rcases keyIs_shape h1 with ⟨i, t, e1, e2⟩ | ⟨x, t, e1, e2⟩
      · dsimp only at e1
        subst e1
        rw [e2]
        exact .int i t
      · dsimp only at e1
        subst e1
        rw [e2]
        exact .str x t
    exact ReadsAll.cons z q
theorem valsPaired {P : Program} {w : World} : ∀ {es : List DictEntry} {kvs : List (Key × Value)}, Pairs (mixKind P w) es kvs → es.map (·.val) = kvs.map (·.2)
  | _, _, .nil => rfl
  | _, _, .cons _ h2 r => by
    rw [List.map_cons, List.map_cons, h2, valsPaired r]
theorem kv_keys : ∀ {kvs : List (Key × V)} {vs : List (Key × Value)}, KV kvs vs → kvs.map (fun kv => keyD kv.1) = vs.map (fun kv => keyD kv.1) ∧ Vals (kvs.map (·.2)) (vs.map (·.2))
  | _, _, .nil => ⟨rfl, .nil⟩
  | _, _, .cons h r => by
    obtain ⟨e1, e2⟩ := kv_keys r
    refine ⟨?_, .cons h.2 e2⟩
    rw [List.map_cons, List.map_cons, h.1, e1]
section
variable {X : Cx} {pins : List (Addr × Obj)} {σ : L2.St} {H : Hp} {s : Shared}
mutual
theorem DD.reads (I : Inv X pins σ H s) : ∀ {v : V} {d : PyData} {u : Value}, DD X.K H v d → RelV v u → ∃ as, Reads s.heap u d as ∧ (noList d = true → sysModules ∉ as)
  | _, _, _, .non, r => by
    cases r
    exact ⟨_, Reads.none, fun _ h => nomatch h⟩
  | _, _, _, .bl b, r => by
    cases r
    exact ⟨_, Reads.bool b, fun _ h => nomatch h⟩
  | _, _, _, .int i, r => by
    obtain ⟨t, rfl⟩ := r
    exact ⟨_, Reads.int i t, fun _ h => nomatch h⟩
  | _, _, _, .str x, r => by
    obtain ⟨t, rfl⟩ := r
    exact ⟨_, Reads.str x t, fun _ h => nomatch h⟩
  | _, _, _, .lst hs ha, r => by
    cases r
    obtain ⟨its, rv, ⟨o, n, ho, hc, _, hd⟩, _⟩ := I.list hs
    obtain ⟨as, hr, _⟩ := DDs.reads I ha rv
    exact ⟨_, Reads.list ho hc hd hr, fun z => by simp [noList] at z⟩
  | _, _, _, .tup hs ha, r => by
    cases r
    obtain ⟨its, rv, ⟨o, ho, hc, n, hd⟩, _⟩ := I.tuple hs
    obtain ⟨as, hr, hn⟩ := DDs.reads I ha rv
    exact ⟨_, Reads.tuple ho hc hd hr, fun z => hn (by simpa [noList] using z)⟩
  | _, _, _, .dct (a := a) (kvs := kvs) (ps := ps) hs hk ha, r => by
    cases r
    obtain ⟨_, hS, vs, rk, o, es, ep, ho, hx, hd, _, hp, _⟩ := (show ObjOk X.prog X.w H s.heap a (.dK kvs) from I.hok a _ hs)
    obtain ⟨e1, e2⟩ := kv_keys rk
    have k1 : ReadsAll s.heap (es.toList.map (·.key)) (ps.map (·.1)) [] := by
      rw [hk, e1]
      exact keysRead hp
    obtain ⟨as, hr, hn⟩ := DDs.reads I ha e2
    have k2 : ReadsAll s.heap (es.toList.map (·.val)) (ps.map (·.2)) as := by
      rw [valsPaired hp]
      exact hr
    refine ⟨_, Reads.dict ho hx.1 hd k1 k2, fun z => ?_⟩
    have z2 : noLists (ps.map (·.2)) = true := by
      rw [← noListK_map]
      simpa [noList] using z
    intro hm
    rcases List.mem_cons.mp hm with q | q
    · rw [← q] at hS
      exact absurd hS (by decide)
    · exact hn z2 q
theorem DDs.reads (I : Inv X pins σ H s) : ∀ {vs : List V} {ds : List PyData} {us : List Value}, DDs X.K H vs ds → Vals vs us → ∃ as, ReadsAll s.heap us ds as ∧ (noLists ds = true → sysModules ∉ as)
  | _, _, _, .nil, r => by
    cases r
    exact ⟨_, ReadsAll.nil, fun _ h => nomatch h⟩
  | _, _, _, .cons h1 h2, r => by
    cases r with
    | cons r1 r2 =>
      obtain ⟨as, q1, n1⟩ := DD.reads I h1 r1
      obtain ⟨bs, q2, n2⟩ := DDs.reads I h2 r2
      refine ⟨_, ReadsAll.cons q1 q2, fun z => ?_⟩
      have z2 := Bool.and_eq_true_iff.mp (by simpa only [noLists] using z)
      intro hm
      rcases List.mem_append.mp hm with q | q
      · exact n1 z2.1 q
      · exact n2 z2.2 q
end
/-! ### repr, ==, isinstance -/
def rRepr (K : PySem.W.Frag) : List V → Hp → VK → Prop := fun xs H Q => ∃ (x : V) (d : PyData), xs = [x] ∧ DD K H x d ∧ d.showable = true ∧ (d.hasDict = true → noList d = true) ∧ d.depth ≤ 40 ∧ d.shown.length ≤ sizeLine ∧ Q (.str d.shown) H
theorem call_repr (hg : X.A.guards = some []) (hu : X.A.units + 64 < cLine) : CallR X (.builtin "repr") (rRepr X.K) := by
  intro pins s σ H xs us Q I r ⟨x, d, ex, hd, hs, hl, hz, hn, q⟩
  subst ex
  cases r with
  | cons rx rr =>
    cases rr
    rename_i u
    obtain ⟨as, hr, hsm⟩ := DD.reads I hd rx
    have fin : ∀ (h' : Heap) (u : Tok) (tk : Nat), (∀ b o, s.heap.get? b = some o → h'.get? b = some o) → EP X pins σ Q (.str d.shown u) { s with heap := h', toks := tk } := fun h' u tk k => ⟨.str d.shown, H, I.kept (t' := tk) k, ⟨_, rfl⟩, q⟩
    cases hd with
    | non => cases rx; exact P.repr_of_none (fin _ _ _ fun _ _ e => e)
    | bl b => cases rx; exact P.repr_of_bool (fin _ _ _ fun _ _ e => e)
    | int i =>
      obtain ⟨t, rfl⟩ := rx
      exact P.repr_of_int (by simpa [PyData.showable] using hs) (fin _ _ _ fun _ _ e => e)
    | str y =>
      obtain ⟨t, rfl⟩ := rx
      exact P.repr_of_str (fin _ _ _ fun _ _ e => e) hn
    | lst h1 h2 => cases rx; exact repr_of_reads' hr hs (fun z => hsm (hl z)) hg (by omega) (fun _ _ e => e) fin hn
    | tup h1 h2 => cases rx; exact repr_of_reads' hr hs (fun z => hsm (hl z)) hg (by omega) (fun _ _ e => e) fin hn
    | dct h1 h2 h3 => cases rx; exact repr_of_reads' hr hs (fun z => hsm (hl z)) hg (by omega) (fun _ _ e => e) fin hn
/-- == of data without dicts -/
def rEqDD (K : PySem.W.Frag) : R2 := fun x y H Q => ∃ d e, DD K H x d ∧ DD K H y e ∧ SeqAt.shaped d = true ∧ SeqAt.shaped e = true ∧ Q (.bl (PyData.eqv d e)) H
def rNeDD (K : PySem.W.Frag) : R2 := fun x y H Q => ∃ d e, DD K H x d ∧ DD K H y e ∧ SeqAt.shaped d = true ∧ SeqAt.shaped e = true ∧ Q (.bl (!PyData.eqv d e)) H
theorem op_eqDD (hu : X.A.units + 64 < cLine) : OpR X (compareOp .Eq) (rEqDD X.K) := by
  intro pins s σ H x y v u Q I rx ry ⟨d, e, hd, he, sd, se, q⟩
  obtain ⟨as, r1, _⟩ := DD.reads I hd rx
  obtain ⟨bs, r2, _⟩ := DD.reads I he ry
  exact SeqAt.compareEq_shaped r1 r2 sd se hu ⟨.bl _, H, I, rfl, q⟩
theorem op_neDD (hu : X.A.units + 64 < cLine) : OpR X (compareOp .NotEq) (rNeDD X.K) := by
  intro pins s σ H x y v u Q I rx ry ⟨d, e, hd, he, sd, se, q⟩
  obtain ⟨as, r1, _⟩ := DD.reads I hd rx
  obtain ⟨bs, r2, _⟩ := DD.reads I he ry
  exact SeqAt.compareNe_shaped r1 r2 sd se hu ⟨.bl _, H, I, rfl, q⟩
end
/-- the built-in type of data -/
def tyD : PyData → String
  | .none => "NoneType"
  | .bool _ => "bool"
  | .int _ => "int"
  | .str _ => "str"
  | .list _ => "list"
  | .tuple _ => "tuple"
  | .dict _ => "dict"
theorem tyX_sqL {K : PySem.W.Frag} {H : Hp} {a : Addr} {xs : List V} (h : SqL K H a xs) : TyX K H (.ref a) (.type "list") := by
  rcases h with (h | ⟨o, h⟩) | ⟨o, _, _, h, hc, _⟩
  · exact .base (.lst h)
  · exact .base (.frz h)
  · exact .kList h hc
theorem tyX_sqT {K : PySem.W.Frag} {H : Hp} {a : Addr} {xs : List V} (h : SqT K H a xs) : TyX K H (.ref a) (.type "tuple") := by
  rcases h with (h | ⟨o, h⟩) | ⟨o, _, _, h, hc, _⟩
  · exact .base (.tup h)
  · exact .fTuple h
  · exact .kTuple h hc
theorem DD.ty {K : PySem.W.Frag} {H : Hp} {v : V} {d : PyData} (h : DD K H v d) : TyX K H v (.type (tyD d)) := by
  cases h with
  | non => exact .base .non
  | bl b => exact .base (.bl b)
  | int i => exact .base (.int i)
  | str x => exact .base (.str x)
  | lst h1 _ => exact tyX_sqL h1
  | tup h1 _ => exact tyX_sqT h1
  | dct h1 _ _ => exact .base (.dK h1)
/-- isinstance(x, T) of data, T one of int, bool, str, tuple, list -/
def isD (T : String) : PyData → Bool
  | .none => false
  | .bool _ => T == "bool" || T == "int"
  | .int _ => T == "int"
  | .str _ => T == "str"
  | .list _ => T == "list"
  | .tuple _ => T == "tuple"
  | .dict _ => T == "dict"
theorem kit_D {K : PySem.W.Frag} (d : PyData) {T : String} (hT : T = "int" ∨ T = "bool" ∨ T = "str" ∨ T = "tuple" ∨ T = "list") : PySem.W.kitOne K (.type (tyD d)) (.type T) = some (isD T d) := by
  rcases hT with h | h | h | h | h <;> subst h <;> cases d <;> simp only [tyD, isD] <;> exact kit_ty (by decide +kernel)
/-- isinstance(x, T) -/
def rIsD (K : PySem.W.Frag) (T : String) : List V → Hp → VK → Prop := fun xs H Q => ∃ (x : V) (d : PyData), xs = [x, .ty T] ∧ DD K H x d ∧ Q (.bl (isD T d)) H
theorem call_isD {X : Cx} {T : String} (hT : T = "int" ∨ T = "bool" ∨ T = "str" ∨ T = "tuple" ∨ T = "list" := by simp) : CallR X (.builtin "isinstance") (rIsD X.K T) := by
  intro pins s σ H xs us Q I r ⟨x, d, ex, hd, q⟩
  exact call_isi pins s σ H xs us Q I r ⟨x, .ty T, .type (tyD d), .type T, isD T d, ex, .ty T, hd.ty, kit_D d hT, q⟩
end Aim

namespace Aim
open PySem PySem.Spec PyProof.Rows L2
open PySem.W (KxsAt kxs_mw)
/-! ### the package's errors: AimError.__init__ says super().__init__(text), then stores the value -/
/-- the text of AimError.__init__ -/
structure IsInit (st : Stmt) : Prop where
  body : ∃ (p1 p2 p3 p4 p5 p6 p7 p8 p9 p10 : Pos) (m : Str) (jj : Nat), defBody st = [.Expr (.Call (.Attribute (.Call (.Name "super" p1) [] [] p2) "__init__" p3) [.Constant (.str m) jj p4] [] p5) p6, .Assign [.Attribute (.Name "self" p7) "value" p8] (.Name "value" p9) p10] ∧
    ∀ env : Env, ∃ pl : Sem Bool, eval (.Call (.Attribute (.Call (.Name "super" p1) [] [] p2) "__init__" p3) [.Constant (.str m) jj p4] [] p5) env = (do
      let ov ← attributeBase (.Call (.Name "super" p1) [] [] p2) "__init__" env (eval (.Call (.Name "super" p1) [] [] p2) env)
      standAt p3.atName
      let (g, first) ← holding [ov] (getMethod ov "__init__" pl)
      callWith p5 g first (backTo p5 (starEach [.Constant (.str m) jj p4] env)) [])
  sc : defScope st = { kind := .function, names := [("self", .local), ("value", .local), ("__class__", .free), ("super", .globalImplicit)], isGenerator := false, isCoroutine := false }
  ps : ∃ (a b : Option Expr) (p1 p2 : Pos), defArgs st = { posonlyargs := [], args := [{ arg := "self", annotation := a, pos := p1 }, { arg := "value", annotation := b, pos := p2 }], vararg := none, kwonlyargs := [], kw_defaults := [], kwarg := none, defaults := [] }
/-- the def as it stands behind the top; D: the class AimError -/
structure AimI (P : Program) (K : PySem.W.Frag) (st : Stmt) (f D : Addr) : Prop where
  txt : IsInit st
  fn : ∃ (oc : Value) (od an : Option Addr) (osl : Array (Option Value)) (kV doc pm ct : Value) (cc cda : Addr) (ccl cl : Value) (cdd cld : Option Addr) (ccs csl : Array (Option Value)) (vs : Array Value) (file : Str) (tf : Tok) (cdD : ClassData),
    K.lookup f = some ⟨oc, od, .func (PySem.W.fnX "__init__" "AimError.__init__" (defArgs st) (defBody st) (defScope st) [("__class__", cc)] .none kV doc pm an (.ref cda) ct), osl⟩ ∧ PySem.W.codeIn K (.ref cda) "AimError.__init__" = true ∧
    K.lookup cda = some ⟨ccl, cdd, .fields vs, ccs⟩ ∧ vs[2]? = some (.str file tf) ∧ ((P.main.file : Str) == file) = true ∧ K.lookup cc = some ⟨cl, cld, .cell (some (.ref D)), csl⟩ ∧ PySem.W.clsIn K D = some cdD
  tI : PySem.W.typeIn K (.ref f) = some (.type "function")
  top : (P.main.scope.names.lookup ("super" : Str)).isSome = false
  third : PySem.W.nsIn K cStatics "thirdparty.any" = some none
/-- an error class of the package at C, below D -/
structure AimC (K : PySem.W.Frag) (f D C : Addr) : Prop extends OexC K C, XfC K C where
  sub : PySem.W.mroIn K C (.ref D) = some true
  sup : PySem.W.ks_superIn K C D "__init__" = some (some (.builtin "ValueError.__init__"))
  ve : PySem.W.subIn K (.ref C) (.type "ValueError") = some true
  nv : PySem.W.findIn K (.ref C) "value" = some none
  ini : PySem.W.findIn K (.ref C) "__init__" = some (some (.ref f))
  own : PySem.W.findIn K (.ref C) "__class__" = some (some (.builtin "object.__class__"))
  get : PySem.W.specialIn K (.builtin "object.__class__") "__get__" = some (some (.builtin "getset_descriptor.__get__"))
  tak : PySem.W.takesIn K (.builtin "object.__class__") = some true
  obj : PySem.W.mroIn K C (.type "object") = some true
section
variable {P : Program} {w : World} {K : PySem.W.Frag} {mg : Str → Option Value} {base : Heap} {A : Around} {E : Value → Shared → Prop} {R : Result → Shared → Prop} {s : Shared} {f e C D t0 : Addr} {u : Value} {st : Stmt}
/-- the bound ValueError.__init__, called -/
theorem call_mw {q : Addr} {rest : List Value} {Q : Value → Shared → Prop} (hC : ∃ nm qn N bs bm sn sub ab col dd k0 k1 k2 k3 k5, s.heap.get? C = some (excClassObj nm qn C N bs bm true sn sub ab col dd k0 k1 k2 k3 k5 "ValueError.__new__"))
    (he : s.heap.get? e = some (HandSPX.excO C t0)) (hq : s.heap.get? q = some (kxs_mw "ValueError.__init__" e)) (hz : rest.length ≤ sizeLine)
    (h : ∀ h', (∀ b o, b ≠ e → s.heap.get? b = some o → h'.get? b = some o) → h'.get? e = some (HandSPX.excO C s.heap.objs.size) → Q .none { s with heap := h' }) : wpAny (model P w) A (call (.ref q) rest) Q E s := by
  obtain ⟨nm, qn, N, bs, bm, sn, sub, ab, col, dd, k0, k1, k2, k3, k5, hC⟩ := hC
  obtain ⟨hh, g, d, tk, os⟩ := s
  refine wpAny_call (codeAny_of_tree ?_)
  show wpAny _ A.in1 (callAny (.ref q) ⟨rest, []⟩) _ _ _
  simp only [callAny]
  refine wpAny_bind (wpAny_load hq ?_)
  simp only [kxs_mw, show (Value.type "method-wrapper" == Value.type "method" || Value.type "method-wrapper" == Value.type "builtin_function_or_method" || Value.type "method-wrapper" == Value.type "method-wrapper") = true by decide, if_true]
  refine PySem.W.KFB.if_so (by decide) (wpAny_bind (PySem.W.check_bound_init F.excBase_ValueError.toExcCallFacts hC he rfl (wpAny_bind (wpAny_pure (wpAny_pure ?_)))))
  refine ⟨plainId_quiet F.excBase_ValueError.init.plain _, codeAny_builtin F.excBase_ValueError.initEntry ?_⟩
  exact PySem.W.exc_init_tree (cls := .ref C) (t0 := t0) (dv := none) (c2 := .none) (c3 := .none) (b4 := .bool false) he hz fun h' k e' _ => h h' k e'
theorem aim_init (M : Mod K mg base) (hbk : ∀ b o, base.get? b = some o → s.heap.get? b = some o) (Z : AimI P K st f D) (c : AimC K f D C) (hsup : mg "super" = none) (hdep : A.depth < recursionLimit) (he : s.heap.get? e = some (HandSPX.excO C t0)) (hbe : base.get? e = none)
    (hR : ∀ h' dx t1 tk, (∀ b o, b ≠ e → s.heap.get? b = some o → h'.get? b = some o) → s.heap.objs.size ≤ dx → dx ≠ e → h'.get? e = some ({ cls := .ref C, dict := some dx, data := .fields #[.ref t1, .none, .none, .none, .bool false, .none] } : Obj) →
      h'.Ns1 dx (fun y => if y = "value" then some u else none) → R (.ok (.ret .none)) ⟨h', s.gens, s.drawn, tk, s.os⟩) : codeAny (model P w) A (.call (.ref f) ⟨[.ref e, u], []⟩) R s := by
  obtain ⟨⟨⟨p1, p2, p3, p4, p5, p6, p7, p8, p9, p10, m, jj, hbody, hev⟩, hsc, ⟨a0, b0, q1, q2, hps⟩⟩, ⟨oc, od, an, osl, kV, doc, pm, ct, cc, cda, ccl, cl, cdd, cld, ccs, csl, vs, file, tf, cdD, lf, hcd, lcd, hvs, hfile, lcc, hD⟩, tI, htop, hthird⟩ := Z
  have X : K.In s.heap := M.kin.keeps hbk
  have lim : s.heap.NoLimit := M.nolimit.keeps hbk
  rw [hbody, hsc, hps] at lf
  obtain ⟨nm, qn, NN, bs, bm, sn, sub, ab, col, dd, k0, k1, k2, k3, k5, lC, hbm⟩ := c.cls
  have hcl : PySem.W.clsIn K C = some { name := nm, bases := bs, mro := .ref C :: bm, ns := NN, qualname := qn, hasDict := true, slotNames := sn, subclasses := sub, abstract := ab, collection := col, hasDel := false } := by unfold PySem.W.clsIn; rw [lC] <;> rfl
  have hloc : ∀ x ∈ [(("self" : Str), Value.ref e), (("value" : Str), u)], List.lookup x.1 [(("self" : Str), NameKind.local), ("value", .local), ("__class__", .free), ("super", .globalImplicit)] = some .local := by
    intro x hx
    rcases List.mem_cons.mp hx with z | hx
    · subst z
      rfl
    · rcases List.mem_cons.mp hx with z | hx
      · subst z
        rfl
      · cases hx
  have hcell : ∀ x ∈ [(("self" : Str), NameKind.local), (("value" : Str), NameKind.local), (("__class__" : Str), NameKind.free), (("super" : Str), NameKind.globalImplicit)], x.2 ≠ .cell := by decide
  refine ks_codeAny_call_defAt (binds := [("self", .ref e), ("value", u)]) hdep (X _ _ lf) rfl lim (PySem.W.codeRec_of X hcd) rfl (.of_eq rfl) (fun x hx => hcell x hx) hloc (fun h0 hns hk0 => ?_)
  have X0 : K.In h0 := X.keeps hk0
  have hb0 : ∀ b o, base.get? b = some o → h0.get? b = some o := fun b o q => hk0 b o (hbk b o q)
  have he0 := hk0 _ _ he
  obtain ⟨oD, hD1, hD2⟩ : ∃ oD, h0.get? D = some oD ∧ oD.data = .cls cdD := by
    unfold PySem.W.clsIn at hD
    split at hD
    · rename_i cx dx cd' sl ho
      cases hD
      exact ⟨_, X0 _ _ ho, rfl⟩
    · cases hD
  obtain ⟨pl, hev⟩ := hev (callEnv (PySem.W.fnX "__init__" "AimError.__init__" { posonlyargs := [], args := [{ arg := "self", annotation := a0, pos := q1 }, { arg := "value", annotation := b0, pos := q2 }], vararg := none, kwonlyargs := [], kw_defaults := [], kwarg := none, defaults := [] }
    [.Expr (.Call (.Attribute (.Call (.Name "super" p1) [] [] p2) "__init__" p3) [.Constant (.str m) jj p4] [] p5) p6, .Assign [.Attribute (.Name "self" p7) "value" p8] (.Name "value" p9) p10]
    { kind := .function, names := [("self", .local), ("value", .local), ("__class__", .free), ("super", .globalImplicit)], isGenerator := false, isCoroutine := false } [("__class__", cc)] .none kV doc pm an (.ref cda) ct) s.heap.objs.size f)
  refine ks_wpAt_execs_cons (ks_wpAt_Expr_any (ks_wpAt_MethodCall (ks_wpAt_super_base rfl rfl rfl rfl (X0 _ _ lf) rfl rfl rfl (X0 _ _ lcd) rfl hvs hfile htop ?_) hev))
  obtain ⟨mb, hmb, hbb⟩ := M.blt
  refine PySem.W.ks_loadName_global rfl rfl (Calls.loadGlobal_builtin (M.glob.keeps hb0) hsup (hmb.keeps hb0) ((hbb "super" (by decide)).trans (by rfl)) ⟨rfl, ?_⟩)
  refine wpAny_loadName_free rfl rfl rfl ⟨_, X0 _ _ lcc, rfl⟩ ?_
  refine wpAny_loadName_local rfl rfl hns rfl ?_
  refine ks_wpAny_isType_cls hD1 hD2 ⟨rfl, ?_⟩
  refine ks_wpAny_call_super hD1 hD2 he0 rfl (fun _ z => by cases z) (PySem.W.looks_mroIn X0 c.sub) (fun h1 hso hk1 => ?_)
  have X1 := X0.keeps hk1
  have he1 := hk1 _ _ he0
  have LI : PySem.W.Looks (model P w) h1 (isInstance (.ref e) (.type "ValueError")) true := by
    have I : PySem.W.InstAt h1 e (HandSPX.excO C t0) C none := ⟨he1, rfl, rfl, trivial⟩
    exact I.type.andThen (PySem.W.looks_subIn X1 c.ve)
  have hne : e ≠ C := by
    intro z
    have y := X1 _ _ lC
    rw [← z, he1] at y
    cases y
  have hsup2 : PySem.W.alongIn K "__init__" (((Value.ref C :: bm).dropWhile (· != .ref D)).drop 1) = some (some (.builtin "ValueError.__init__")) := by
    have y := c.sup
    unfold PySem.W.ks_superIn at y
    rw [hcl] at y
    exact y
  refine PySem.W.kxs_getMethod PySem.W.kxs_ValueError hso (PySem.W.looks_opaque X1 hthird) (l₀ := Value.ref C :: bm) (fun A Q E s k q => wpAny_bind ((PySem.W.looks_clsIn X1 hcl) A _ E s k (wpAny_pure q))) rfl X1 hsup2 LI hne (by decide) ?_
  refine PySem.W.kxs_callWith (i := "ValueError.__init__") (x := e) rfl ?_
  refine Calls.evalArgs_plain ?_
  refine Calls.spliced_cons ?_
  refine Calls.Constant_str (x := m) (k := jj) (pos := p4) ?_
  refine Calls.spliced_nil ?_
  refine ⟨Heap.get?_push_at rfl rfl, ?_⟩
  have X2 : K.In (h1.push (kxs_mw "ValueError.__init__" e)) := X1.keeps fun b o q => Heap.get?_push_of_some _ q
  refine call_mw ⟨_, _, _, _, _, _, _, _, _, _, _, _, _, _, _, X2 _ _ lC⟩ (Heap.get?_push_of_some _ he1) (Heap.get?_push_at rfl rfl) (by show 1 ≤ sizeLine; decide) (fun h2 hk2 he2 => ?_)
  have kk : ∀ b o, b ≠ e → h0.get? b = some o → h2.get? b = some o := fun b o hb q => hk2 b o hb (Heap.get?_push_of_some _ (hk1 b o q))
  have nF : s.heap.objs.size ≠ e := (Nat.ne_of_lt (Heap.lt_size he)).symm
  have X3 : K.In h2 := fun a o q => by
    by_cases z : a = e
    · rw [z] at q
      have y := M.kin _ _ q
      rw [hbe] at y
      cases y
    · exact kk a o z (X0 a o q)
  have hns2 : h2.Ns s.heap.objs.size (fun x => ([(("self" : Str), Value.ref e), (("value" : Str), u)] : List (Str × Value)).reverse.lookup x) := by
    obtain ⟨o, es, ep, ho, r⟩ := hns
    exact ⟨o, es, ep, kk _ _ nF ho, r⟩
  refine wpAt_of_wpAny (wpAny_execs_cons (plainObj_wpAny_Assign_Attribute (wpAny_Name (wpAny_loadName_local rfl rfl hns2 rfl (wpAny_Name (wpAny_loadName_local rfl rfl hns2 rfl ?_))))))
  refine PySem.W.set_plain X3 (od := none) ⟨he2, rfl, rfl, trivial⟩ c.sa ?_
  have big : s.heap.objs.size ≤ h2.objs.size := by
    obtain ⟨o, es, ep, ho, _⟩ := hns2
    exact Nat.le_of_lt (Heap.lt_size ho)
  refine HandSPX.exc_osa X3 he2 hcl (show HandSPX.refsVE (.ref C :: bm) = true from hbm) rfl c.nv (fun h' tk' dx k dn dne hx hn => ?_)
  refine wpAny_execs_nil ?_
  exact hR h' dx _ tk' (fun b o hb q => k b o hb (kk b o hb (hk0 b o q))) (Nat.le_trans big dn) dne hx hn
end
end Aim

namespace Aim
open PySem PySem.Spec PyProof.Rows L2
/-- an error object of the class cls, its dict at d, at a -/
def XcV (cls : Value) (d : Option Addr) (a : Addr) : HO := .ext fun h => ∃ (oe : Obj) (vs : Array Value), h.get? a = some oe ∧ Zc cls d oe ∧ oe.data = .fields vs
theorem XcV.ok {P : Program} {w : World} {H : Hp} {h : Heap} {a : Addr} {cls : Value} {d : Option Addr} {oe : Obj} {vs : Array Value} (e : h.get? a = some oe) (z : Zc cls d oe) (q : oe.data = .fields vs) : ObjOk P w H h a (XcV cls d a) :=
  ⟨⟨oe, vs, e, z, q⟩, ⟨oe, e⟩, fun _ _ ⟨o, v, x, y⟩ k => ⟨o, v, k o x, y⟩⟩
theorem XcV.at {P : Program} {w : World} {H : Hp} {h : Heap} {a : Addr} {cls : Value} {d : Option Addr} (hok : HOk P w H h) (e : H a = some (XcV cls d a)) : ∃ (oe : Obj) (vs : Array Value), h.get? a = some oe ∧ Zc cls d oe ∧ oe.data = .fields vs := by
  obtain ⟨x, _, _⟩ := (show ObjOk P w H h a (XcV cls d a) from hok a _ e)
  exact x
theorem xcv_np {cls : Value} {d : Option Addr} {n : Nat} {a : Addr} : XcV cls d a ≠ PotO n a := fun z => by
  unfold XcV PotO at z
  injection z with z
  -- a heap with a pot at a bears no error there
  obtain ⟨h, hh⟩ : ∃ h : Heap, h.get? a = some { cls := .type "list", data := .seq #[.int 0 0, .int 0 0, .int 0 0] 0 } := ⟨⟨Array.replicate (a + 1) { cls := .type "list", data := .seq #[.int 0 0, .int 0 0, .int 0 0] 0 }, {}⟩, by simp [Heap.get?]⟩
  have y := congrFun z h
  have q : ∃ (oe : Obj) (vs : Array Value), h.get? a = some oe ∧ Zc cls d oe ∧ oe.data = .fields vs := by
    rw [y]
    exact ⟨0, 0, 0, 0, 0, 0, 0, hh, ⟨by omega, by decide, by decide, by omega, by omega⟩⟩
  obtain ⟨oe, vs, e1, _, e2⟩ := q
  rw [hh] at e1
  cases e1
  cases e2
section
variable {X : Cx} {pins : List (Addr × Obj)} {σ : L2.St} {H : Hp} {s : Shared}
/-- an object that nobody tracks is tracked from now on -/
theorem track {a : Addr} {o : HO} (I : Inv X pins σ H s) (na : H a = none) (n0 : X.s_0.heap.get? a = none) (nL : a ≠ X.env.locals) (nc : ∀ x c, X.env.cells.lookup x = some c → c ≠ a) (np : ∀ p ∈ X.pn ++ pins, p.1 ≠ a)
    (new : ObjOk X.prog X.w (upd H a o) s.heap a o) : Inv X pins σ (upd H a o) s := by
  have st : ∀ {b : Addr} {u : HO}, H b = some u → upd H a o b = some u := fun {b u} e => by
    rw [upd_ne (ne_of_none e na)]
    exact e
  refine ⟨I.ok, I.os, I.bare, ⟨I.base.keep, I.base.slot, fun b u e n x => ?_, I.base.there, fun b xs e => st (I.base.tups b xs e), fun b q u e => st (I.base.frzs b q u e), fun b ps e => ?_⟩, I.loc, I.cell, ?_, fun x c e => ?_, fun p hp => ?_, fun b u e => ?_, I.len⟩
  · rw [upd_ne (fun z => by rw [z, n0] at e; cases e)]
    exact I.base.free b u e n x
  · obtain ⟨m, q⟩ := I.base.tbls b ps e
    exact ⟨m, st q⟩
  · rw [upd_ne nL.symm]
    exact I.free
  · rw [upd_ne (nc x c e)]
    exact I.freeC x c e
  · obtain ⟨e, n, r⟩ := I.pin p hp
    exact ⟨e, by rw [upd_ne (np p hp)]; exact n, r⟩
  · by_cases hb : b = a
    · subst hb
      rw [upd_same] at e
      cases e
      exact new
    · rw [upd_ne hb] at e
      exact (I.hok b u e).stay (fun _ _ _ q => q) (fun _ q => st q) fun _ _ q => st q
end
/-! ### the errors of the package made: raised, and as values -/
section
variable {X : Cx} {x : Str} {f C D : Addr} {st : Stmt} {e : Expr} {te : TE} {p pos : Pos}
theorem made_aim {pins : List (Addr × Obj)} {σ : L2.St} {H : Hp} {s : Shared} {v : V} {u : Value} {Q : Value → Shared → Prop} (Z : AimI X.prog X.K st f D) (c : AimC X.K f D C) (hsup : X.mg "super" = none) (hr : Room 1 X.A) (I : Inv X pins σ H s) (rv : RelV v u)
    (h : ∀ (a dx t1 : Addr) (h' : Heap) (tk : Nat), H a = none → H dx = none → dx ≠ a → s.heap.get? a = none → (∀ b o, s.heap.get? b = some o → h'.get? b = some o) → s.heap.objs.size ≤ a → s.heap.objs.size ≤ dx →
      h'.get? a = some ({ cls := .ref C, dict := some dx, data := .fields #[.ref t1, .none, .none, .none, .bool false, .none] } : Obj) → (∀ (G : Hp) (g : Heap), (∀ o, h'.get? dx = some o → g.get? dx = some o) → ObjOk X.prog X.w G g dx (.xd [("value", v)])) → Q (.ref a) { s with heap := h', toks := tk }) :
    wpAny (model X.prog X.w) X.A (call (.ref C) [u]) Q X.xe s := by
  obtain ⟨nm, q, N, bs, bm, sn, sub, ab, col, dd, k0, k1, k2, k3, k5, hC, hbm⟩ := c.cls
  obtain ⟨hp, g, dr, tk, os⟩ := s
  have kk : ∀ b o, hp.get? b = some o → ((hp.push (PySem.W.kdv_tup [u])).push (HandSPX.excO C hp.objs.size)).get? b = some o := fun b o e => Heap.get?_push_of_some _ (Heap.get?_push_of_some _ e)
  have hget : ((hp.push (PySem.W.kdv_tup [u])).push (HandSPX.excO C hp.objs.size)).get? (hp.objs.size + 1) = some (HandSPX.excO C hp.objs.size) := by heap_get
  have hsz : hp.objs.size ≤ hp.objs.size + 1 := Nat.le_succ _
  have gone : hp.get? (hp.objs.size + 1) = none := by
    cases z : hp.get? (hp.objs.size + 1) with
    | none => rfl
    | some o => exact absurd (Nat.lt_of_lt_of_le (Heap.lt_size z) hsz) (Nat.lt_irrefl _)
  have bn : X.base.get? (hp.objs.size + 1) = none := by
    cases z : X.base.get? (hp.objs.size + 1) with
    | none => rfl
    | some o =>
      have y := I.bk _ _ z
      rw [gone] at y
      cases y
  refine wpAny_call (HandSPX.call_own F.excBase_ValueError (fun Y => HandSPX.refsVE_contains Y bm hbm) (I.kIn _ _ hC) (PySem.W.looks_findIn I.kIn c.ini) (fun self => PySem.W.bind_fn I.kIn self Z.tI) (by show 1 ≤ sizeLine; decide) ?_)
  refine aim_init (mg := X.mg) (base := X.base) (t0 := hp.objs.size) I.mod (fun b o q => kk b o (I.bk b o q)) Z c hsup ?_ hget bn (fun h' dx t1 tk' k hd hne hx hn => ⟨rfl, ?_⟩)
  · have y := hr.dp
    rw [make_depth]
    omega
  have ksz : hp.objs.size ≤ ((hp.push (PySem.W.kdv_tup [u])).push (HandSPX.excO C hp.objs.size)).objs.size := by
    rw [Heap.size_push, Heap.size_push]
    omega
  have hd2 : hp.objs.size ≤ dx := Nat.le_trans ksz hd
  refine h (hp.objs.size + 1) dx t1 h' tk' (I.hok.fresh hsz) (I.hok.fresh hd2) hne gone (fun b o q => k b o (fun z => by rw [z, gone] at q; cases q) (kk b o q)) hsz hd2 hx (fun G g' hg => ?_)
  exact ⟨_, hn.at hg, relO_put (fs := []) rv fun _ => True.intro⟩
/-- C(e), to be raised -/
def tMkA (C : Addr) (te : TE) : L2.St → Hp → XK → Prop := fun σ H Q => te σ H fun v H1 => ∀ d, H1 d = none → Q (.ref C) (some d) (upd H1 d (.xd [("value", v)]))
theorem pmk_aim (Z : AimI X.prog X.K st f D) (c : AimC X.K f D C) (hsup : X.mg "super" = none) (hr : Room 1 X.A) (hg : Gl X x) (hm : X.mg x = some (.ref C)) (he : PE X e te)
    (hdb : (x == ("__debug__" : Str)) = false := by decide) (hs : starEach [e] X.env = (false, eval e X.env) :: starEach [] X.env := by rfl) : PMk X (.Call (.Name x p) [e] [] pos) (tMkA C te) := by
  intro pins s σ H Q I h
  refine wpAny_Call_Name_kw (ld_glob I hg hm ?_ hdb)
  refine PySem.W.callWith_K (h₀ := X.base) I.ok.mod.kin c.kC ?_ hs (by rfl)
  rw [hs]
  refine Calls.spliced_cons (thn (he.run pins s σ H _ I h) fun u s1 ⟨v, H1, I1, rv, q1⟩ => ?_)
  refine Calls.spliced_nil ⟨I1.kIn, ?_⟩
  refine made_aim Z c hsup hr I1 rv fun a dx t1 h' tk na nd ne ga k hsz hsd hx hxd => ?_
  obtain ⟨G, g1, g2⟩ := restrict h' fun b => decide (b ≠ a)
  have gk : ∀ b, b ≠ a → G.get? b = h'.get? b := fun b hb => g1 b (decide_eq_true hb)
  have ge : G.get? a = none := g2 a (by simp)
  have J := I1.laid (t' := tk) (a := dx) (o := .xd [("value", v)]) (h' := G) (fun b o q => by rw [gk b (fun z => by rw [z, ga] at q; cases q)]; exact k b o q) hsd (hxd _ G fun o q => by rw [gk dx ne]; exact q)
  refine ⟨a, _, _, _, _, .ref C, some dx, rfl, J, fun b o q => ?_, ge, hx, ⟨rfl, rfl⟩, rfl, rfl, ?_, rfl, I1.bare, raises_own c.toOexC.exC c.tyC, q1 dx nd⟩
  · by_cases hb : b = a
    · rw [hb, ge] at q
      cases q
    · rw [← gk b hb]
      exact q
  · rw [upd_ne ne.symm]
    exact na
/-- C(e) as a value -/
def tAimV (C : Addr) (te : TE) : TE := fun σ H Q => te σ H fun v H1 => ∀ a d, H1 a = none → H1 d = none → d ≠ a → Q (.ref a) (upd (upd H1 d (.xd [("value", v)])) a (XcV (.ref C) (some d) a))
theorem pe_aim (Z : AimI X.prog X.K st f D) (c : AimC X.K f D C) (hsup : X.mg "super" = none) (hr : Room 1 X.A) (hg : Gl X x) (hm : X.mg x = some (.ref C)) (he : PE X e te)
    (hdb : (x == ("__debug__" : Str)) = false := by decide) (hs : starEach [e] X.env = (false, eval e X.env) :: starEach [] X.env := by rfl) : PE X (.Call (.Name x p) [e] [] pos) (tAimV C te) := by
  refine ⟨fun pins s σ H Q I h => ?_⟩
  refine wpAny_Call_Name_kw (ld_glob I hg hm ?_ hdb)
  refine PySem.W.callWith_K (h₀ := X.base) I.ok.mod.kin c.kC ?_ hs (by rfl)
  rw [hs]
  refine Calls.spliced_cons (thn (he.run pins s σ H _ I h) fun u s1 ⟨v, H1, I1, rv, q1⟩ => ?_)
  refine Calls.spliced_nil ⟨I1.kIn, ?_⟩
  refine made_aim Z c hsup hr I1 rv fun a dx t1 h' tk na nd ne ga k hsz hsd hx hxd => ?_
  obtain ⟨G, g1, g2⟩ := restrict h' fun b => decide (b ≠ a)
  have gk : ∀ b, b ≠ a → G.get? b = h'.get? b := fun b hb => g1 b (decide_eq_true hb)
  have ge : G.get? a = none := g2 a (by simp)
  have J := I1.laid (t' := tk) (a := dx) (o := .xd [("value", v)]) (h' := G) (fun b o q => by rw [gk b (fun z => by rw [z, ga] at q; cases q)]; exact k b o q) hsd (hxd _ G fun o q => by rw [gk dx ne]; exact q)
  have na2 : upd H1 dx (.xd [("value", v)]) a = none := by
    rw [upd_ne ne.symm]
    exact na
  have kG : ∀ b o, G.get? b = some o → h'.get? b = some o := fun b o q => by
    by_cases hb : b = a
    · rw [hb, ge] at q
      cases q
    · rw [← gk b hb]
      exact q
  exact ⟨.ref a, _, J.laidN (t' := tk) (h' := h') kG ge na2 (XcV.ok hx ⟨rfl, rfl⟩ rfl), rfl, q1 a dx na nd ne⟩
end
/-! ### try: .. except x as n: .., the error's object known behind the suite -/
/-- what the clause wishes of an error of the body -/
def wKeep (K : PySem.W.Frag) (c : Value) (n i : Nat) (ts : Addr → TS) (Wout : WX) (D : Ends) : WX := fun cls d σ H =>
  ∃ b, PySem.W.exmOne K cls c = some b ∧ (b = true → ∀ a, H a = none → σ.length = n → ts a { nx := fun σ' H' => D.nx (σ'.set i none) (upd H' a (XcV cls d a)), rt := fun _ _ => False } (σ.set i (some (.ref a))) H) ∧ (b = false → Wout cls d σ H)
section
variable {X : Cx} {x n : Str} {c : Value} {i : Nat} {body suite : List Stmt} {b0 : Stmt} {np pos pos' : Pos} {tb : WX → TS} {ts : Addr → TS} {Wout : WX}
theorem ps_try_keep (hs : X.stack = X.env :: X.outer) (hf : X.env.frame = some X.env.locals) (hex : X.ex = []) (hN : X.N.Nodup) (hi : X.N[i]? = some n) (hln : X.env.kindOf n = some .local) (hc : Gl X x) (hmx : X.mg x = some c) (hxd : (x == ("__debug__" : Str)) = false) (tk : Takes X Wout)
    (hb : ∀ (W : WX) (pn : List (Addr × Obj)) (xe : Value → Shared → Prop), Takes (X.tr pn xe) W → PassesOwn (model X.prog X.w) X.A X.env xe → PSs (X.tr pn xe) body (tb W))
    (hsu : ∀ (a : Addr) (oe : Obj) (pn : List (Addr × Obj)), PSs (X.suite a ((a, oe) :: pn)) (b0 :: suite) (ts a)) :
    PS X (.Try body [.ExceptHandler (some (.Name x np)) (some n) (b0 :: suite) pos'] [] [] pos) (fun D σ H => tb (wKeep X.K c X.N.length i ts Wout D) D σ H) := by
  constructor
  intro pins s σ H D I h
  have ok := I.ok
  have frA : X.A.frames = some (X.env :: X.outer) := by rw [ok.frames, hs]
  refine wpAny_Try_except ?_
  have run := (hb (wKeep X.K c X.N.length i ts Wout D) (X.pn ++ pins) (fun e s1 => wpAny (model X.prog X.w) X.A (noteFrame e X.env) (fun _ s2 => wpAny (model X.prog X.w) X.A (setFlight e none) (fun _ s3 =>
    wpAny (model X.prog X.w) X.A (handleBy e X.env [.ExceptHandler (some (.Name x np)) (some n) (b0 :: suite) pos']) (SP X pins D) X.xe s3) X.xe s2) X.xe s1) ?_ PassesOwn.looking).run [] s σ H D (I.toTry _) h
  · refine wpAny_mono run (fun f s1 hsp => ?_) fun _ _ he => he
    rcases f with _ | _ | _ | u
    all_goals first
      | (obtain ⟨σ', H', J', q⟩ := hsp; exact wpAny_execs_nil ⟨σ', H', J'.ofTry ok, q⟩)
      | (obtain ⟨σ', H', J', q⟩ := hsp; exact ⟨σ', H', J'.ofTry ok, q⟩)
      | (obtain ⟨v, σ', H', J', r, q⟩ := hsp; exact ⟨v, σ', H', J'.ofTry ok, r, q⟩)
  · -- an error of the body
    rintro u s' ⟨a, B, sI, pins', σ', H', cls, d, rfl, J', nb, up, sky, na, os, ag, b, hb1, hyes, hno⟩
    have J : Inv X pins σ' H' sI := J'.ofTry ok
    rw [show (X.tr (X.pn ++ pins) _).stack = X.env :: X.outer from hs] at sky
    refine Sky.land Zc.steady frA hf sky fun h3 fl3 up3 => ?_
    have J3 : Inv X pins σ' H' { s' with heap := h3 } := J.landed nb fl3.1 (up.trans up3) os ag
    obtain ⟨oe3, vs3, he3, hz3, hd3⟩ := fl3.there
    have nfr : a ∉ frs (X.env :: X.outer) := fun hm => by
      obtain ⟨_, o', e', hnf⟩ := fl3.2.2.1.mem hm
      rw [he3] at e'
      cases e'
      exact hnf _ hd3
    have nL : a ≠ X.env.locals := fun z => nfr (List.mem_filterMap.mpr ⟨X.env, List.mem_cons_self, by rw [hf, z]⟩)
    have nF : a ∉ X.fs := fun hm => by
      obtain ⟨e, he, q⟩ := List.mem_filterMap.mp hm
      exact nfr (List.mem_filterMap.mpr ⟨e, List.mem_cons_of_mem _ he, q⟩)
    -- the object is none of those ahead
    have nI : sI.heap.get? a = none := by
      cases z : sI.heap.get? a with
      | none => rfl
      | some o =>
        have y := nb a o z (by rw [show (X.tr (X.pn ++ pins) _).stack = X.env :: X.outer from hs]; exact nfr)
        rw [fl3.2.1] at y
        cases y
    have n0 : X.s_0.heap.get? a = none := by
      cases z : X.s_0.heap.get? a with
      | none => rfl
      | some o =>
        obtain ⟨o', y⟩ := J.base.there a o z (by rw [hex]; exact fun z => nomatch z)
        rw [nI] at y
        cases y
    have np' : ∀ p ∈ X.pn ++ pins, p.1 ≠ a := fun p hp z => by
      obtain ⟨y, _⟩ := J.pin p hp
      rw [z, nI] at y
      cases y
    have S3 := J3.suite he3 hd3 na nL nF
    refine wpAny_handleBy_cons (codeAny_handlers_test ?_) (by intro q; cases q)
    have LT : PySem.W.Looks (model X.prog X.w) h3 (typeOf (.ref a)) cls := fun A Q E s k q => wpAny_typeOf_ref (k _ _ he3) (by rw [hz3.1]; exact q)
    have LM := PySem.W.exm_one (M := model X.prog X.w) J3.kIn LT hb1
    refine ld_glob (X := X.suite a ((a, oe3) :: (X.pn ++ pins))) S3 hc hmx (LM.here ?_) hxd
    cases b with
    | true =>
      refine codeAny_handlers_suite_as (HandSPX.lands_againZ fl3 fun h4 fl4 up4 => ?_)
      have J4 : Inv X pins σ' H' { s' with heap := h4 } := J.landed nb fl4.1 ((up.trans up3).trans up4) os ag
      obtain ⟨oe4, vs4, he4, hz4, hd4⟩ := fl4.there
      refine store_ok (X := X.suite a ((a, oe4) :: (X.pn ++ pins))) (v := .ref a) (J4.suite he4 hd4 na nL nF) hN hi (.inl hln) rfl (fun s5 S5 => ?_) (.inr hln)
      refine wpAny_mono ((hsu a oe4 (X.pn ++ pins)).run [] s5 _ H' _ S5 (hyes rfl a na J.len)) (fun f s6 hsp => ?_) fun _ _ z => False.elim z
      rcases f with _ | _ | _ | u
      · obtain ⟨σ6, H6, S6, q6⟩ := hsp
        obtain ⟨p1, p2, _⟩ := S6.pin (a, oe4) (List.mem_append_left _ List.mem_cons_self)
        have T6 := track (o := XcV cls d a) (S6.unsuite ok) p2 n0 nL (fun y cy e z => by
          obtain ⟨vc, oc, o1, o2⟩ := S6.cell y cy e
          rw [z] at o1
          have e1 : s6.heap.get? a = some oe4 := p1
          rw [e1] at o1
          cases o1
          rw [hd4] at o2
          cases o2) np' (XcV.ok (show s6.heap.get? a = some oe4 from p1) hz4 hd4)
        exact gone_ok T6 hN hi hln fun s7 J7 => ⟨_, _, J7, q6⟩
      · obtain ⟨_, _, _, q⟩ := hsp
        exact False.elim q
      · obtain ⟨_, _, _, q⟩ := hsp
        exact False.elim q
      · obtain ⟨_, _, _, _, _, q⟩ := hsp
        exact False.elim q
    | false =>
      refine wpAny_handleBy_nil ?_
      obtain ⟨k1, k2, k3, oe, vs, T, oT, ts', he, hz, hd, h1, hr⟩ := id fl3
      unfold PySem.passOn
      refine wpAny_bind (wpAny_field he hd h1 ?_)
      rw [if_neg (show ¬ ((Value.ref T == Value.none) = true) from by simp)]
      refine wpAny_bind ?_
      rw [hf]
      refine HandSPX.setFlight_upZ fl3 fun h4 hh4 up4 => wpAny_throw (tk _ _ ?_)
      exact ⟨a, B, sI, pins, σ', H', cls, d, rfl, J, nb, (up.trans up3).trans up4, .inr (.inr (by rw [hs]; exact hh4)), na, os, ag, hno rfl⟩
end
/-! ### an error object asked -/
section
variable {X : Cx}
/-- e.value -/
def tXcv (K : PySem.W.Frag) (te : TE) : TE := fun σ H Q => te σ H fun x H1 => ∃ (a C d f D : Addr) (v : V), x = .ref a ∧ H1 a = some (XcV (.ref C) (some d) a) ∧ AimC K f D C ∧ H1 d = some (.xd [("value", v)]) ∧ Q v H1
theorem pe_xcv {e : Expr} {te : TE} {pos : Pos} (he : PE X e te) (hb : attributeBase e "value" X.env (eval e X.env) = eval e X.env := by rfl) : PE X (.Attribute e "value" pos) (tXcv X.K te) := by
  refine ⟨fun pins s σ H Q I h => attr_of hb (thn (he.run pins s σ H _ I h) fun u s1 ⟨x, H1, I1, rx, a, C, d, f, D, v, ex, ha, c, hd, q⟩ => ?_)⟩
  subst ex
  obtain rfl : u = Value.ref a := rx
  obtain ⟨oe, vs, hg, hz, hv⟩ := XcV.at I1.hok ha
  obtain ⟨mA, hns, hr⟩ := (show ObjOk X.prog X.w H1 s1.heap d (.xd [("value", v)]) from I1.hok d _ hd)
  obtain ⟨od, ho, hl⟩ := lookIn_ns hns
  obtain ⟨w, hw, rw'⟩ := RelO.some_of (v := v) (o := mA "value") (by have z := hr "value"; simpa [List.lookup] using z)
  have J : PySem.W.InstAt s1.heap a oe C (some od) := ⟨hg, hz.1, by unfold PySem.W.notCls; rw [hv] <;> rfl, by rw [hz.2]; exact ho⟩
  exact HandSPX.exc_get I1.kIn J c.ga c.gg c.toXfC.exC (PySem.W.findObj_own c.hdC c.nv rfl (by rw [hl, hw])) (handed_of rw') ⟨v, H1, I1.tok _, rw', q⟩
/-- isinstance(e, C) -/
def rIsX (K : PySem.W.Frag) : List V → Hp → VK → Prop := fun xs H Q => ∃ (a C f D : Addr) (d : Option Addr) (k : V) (kv : Value) (b : Bool), xs = [.ref a, k] ∧ H a = some (XcV (.ref C) d a) ∧ AimC K f D C ∧ (∃ dd fs, d = some dd ∧ H dd = some (.xd fs)) ∧ ClsV k kv ∧ PySem.W.kitOne K (.ref C) kv = some b ∧ Q (.bl b) H
theorem call_isX : CallR X (.builtin "isinstance") (rIsX X.K) := by
  intro pins s σ H xs us Q I r ⟨a, C, f, D, d, k, kv, b, ex, ha, c, ⟨dd, fs, ed, hdd⟩, hk, e, q⟩
  subst ex
  subst ed
  obtain ⟨u1, u2, rfl, r1, r2⟩ := vals2 r
  obtain rfl : u1 = Value.ref a := r1
  have e2 := hk.eq r2
  subst e2
  obtain ⟨oe, vs, hg, hz, hv⟩ := XcV.at I.hok ha
  obtain ⟨mA, hns, _⟩ := (show ObjOk X.prog X.w H s.heap dd (.xd fs) from I.hok dd _ hdd)
  obtain ⟨od, ho, _⟩ := lookIn_ns hns
  have J : PySem.W.InstAt s.heap a oe C (some od) := ⟨hg, hz.1, by unfold PySem.W.notCls; rw [hv] <;> rfl, by rw [hz.2]; exact ho⟩
  have hcl : (PySem.W.clsIn X.K C).isSome = true := by
    obtain ⟨cd, hc, _⟩ := PySem.W.any_some c.hdC
    rw [hc]
    rfl
  exact PySem.W.kia_one (PySem.W.kitx_exc hcl c.ga c.gg c.toXfC.exC c.own c.get c.tak c.obj) I.kIn J e (fun z => nomatch z) fun tk => ⟨.bl b, H, I.tok tk, rfl, q⟩
end
end Aim

namespace Aim
open PySem PySem.Spec PyProof.Rows L2
/-! ### a def's promise that may ask that no repr runs around it (G) -/
structure Rn (P : Program) (w : World) (K : PySem.W.Frag) (mg : Str → Option Value) (base : Heap) (G : Bool) (k : Nat) (f : Addr) (fd : FuncData) (ps : List Str) (sp : Sp) : Prop where
  len : ∀ vs H Q E, sp vs H Q E → vs.length = ps.length
  run : ∀ {A : Around} {fr : List Env} {s : Shared} {H : Hp} {args : Args} {us : List Value} {vs : List V} {Q : VK} {E : XK}, Room k A → (G = true → A.guards = some []) → Env0 P w K mg base A fr s H → BindsTo s fd args (ps.zip us) → Vals vs us → sp vs H Q E →
    codeAny (model P w) A (.call (.ref f) args) (CR (L2.CX P w) fr P w H s Q E) s
/-- a def of the module under its name, all its parameters given by position -/
structure Df (P : Program) (w : World) (K : PySem.W.Frag) (mg : Str → Option Value) (base : Heap) (G : Bool) (k : Nat) (x : Str) (sp : Sp) : Prop where
  ex : ∃ (f : Addr) (fd : FuncData) (ps : List Str), Rn P w K mg base G k f fd ps sp ∧ mg x = some (.ref f) ∧ PySem.W.keepIn K (.ref f) = true ∧ L2.Binds K fd ps []
section
variable {P : Program} {w : World} {K : PySem.W.Frag} {mg : Str → Option Value} {base : Heap} {G : Bool}
theorem Df.mono {k j : Nat} {x : Str} {sp : Sp} (d : Df P w K mg base G k x sp) (h : k ≤ j) : Df P w K mg base G j x sp := by
  obtain ⟨f, fd, ps, F, r⟩ := d.ex
  exact ⟨f, fd, ps, ⟨F.len, fun hr => F.run (hr.mono h)⟩, r⟩
theorem Df.imp {k : Nat} {x : Str} {sp sp' : Sp} (d : Df P w K mg base G k x sp) (h : ∀ vs H Q E, sp' vs H Q E → sp vs H Q E) : Df P w K mg base G k x sp' := by
  obtain ⟨f, fd, ps, F, r⟩ := d.ex
  exact ⟨f, fd, ps, ⟨fun vs H Q E q => F.len vs H Q E (h _ _ _ _ q), fun hr hg e b v q => F.run hr hg e b v (h _ _ _ _ q)⟩, r⟩
/-- a def's promise, by its body: where it may raise -/
theorem df_okX {x : Str} {st : Stmt} {f : Addr} {fd : FuncData} {N ps : List Str} {k : Nat} {sp : Sp} (F : L2.Fun K x x st f fd) (hm : mg x = some (.ref f)) (hb : L2.Binds K fd ps []) (S : FnScope N ps (defScope st)) (len : ∀ vs H Q E, sp vs H Q E → vs.length = ps.length)
    (body : ∀ (cdv : Value) (A : Around) (outer : List Env) (s : Shared) (H : Hp) (vs : List V) (Q : VK) (E : XK), Room k (A.deeper (envOfC x (defScope st) s.heap.objs.size f cdv)) → (G = true → A.guards = some []) → sp vs H Q E →
      ∃ t, PSs (cxOf (L2.CX P w) P w K mg base N x (defScope st) f cdv A outer s H E) (defBody st) t ∧ t { nx := fun _ H' => Q .non H', rt := Q } (start N vs) H) : Df P w K mg base G (k + 1) x sp := by
  obtain ⟨oc, od, kV, doc, pm, an, cdv, ct, osl, rfl, lk, hcd⟩ := F.ex
  refine ⟨f, _, ps, ⟨len, fun hr hg e0 b r q => LamX.run_ofS lk hcd S hr e0 b r (len _ _ _ _ q) fun hr' => body cdv _ _ _ _ _ _ _ hr' hg q⟩, hm, F.kp, hb⟩
/-- .. where nothing is raised -/
theorem df_ok {x : Str} {st : Stmt} {f : Addr} {fd : FuncData} {N ps : List Str} {k : Nat} {sp : Sp} (F : L2.Fun K x x st f fd) (hm : mg x = some (.ref f)) (hb : L2.Binds K fd ps []) (S : FnScope N ps (defScope st)) (len : ∀ vs H Q E, sp vs H Q E → vs.length = ps.length)
    (body : ∀ (cdv : Value) (A : Around) (outer : List Env) (s : Shared) (H : Hp) (vs : List V) (Q : VK) (E : XK), Room k (A.deeper (envOfC x (defScope st) s.heap.objs.size f cdv)) → (G = true → A.guards = some []) → sp vs H Q E →
      ∃ t, PSs (cxOf (L2.CX P w) P w K mg base N x (defScope st) f cdv A outer s H E).nox (defBody st) t ∧ t { nx := fun _ H' => Q .non H', rt := Q } (start N vs) H) : Df P w K mg base G (k + 1) x sp :=
  df_okX F hm hb S len fun cdv A outer s H vs Q E hr hg q => by
    obtain ⟨t, h, z⟩ := body cdv A outer s H vs Q E hr hg q
    exact ⟨t, h.nox, z⟩
end
/-! ### a call that is not told of some objects -/
/-- what may be hidden: a list, a dict, a thing told by itself -/
def Hides : HO → Prop
  | .lst _ => True
  | .dK _ => True
  | .ext _ => True
  | _ => False
/-- without what stands in hid; with it again -/
def cut (hid : List Addr) (H : Hp) : Hp := fun b => if b ∈ hid then none else H b
def glue (hid : List Addr) (H H' : Hp) : Hp := fun b => if b ∈ hid then H b else H' b
section
variable {P : Program} {w : World} {H H' : Hp} {h h' : Heap} {hid : List Addr} {b : Addr} {o : HO}
theorem cut_out (n : b ∉ hid) : cut hid H b = H b := if_neg n
theorem cut_in (n : b ∈ hid) : cut hid H b = none := if_pos n
theorem glue_out (n : b ∉ hid) : glue hid H H' b = H' b := if_neg n
theorem glue_in (n : b ∈ hid) : glue hid H H' b = H b := if_pos n
theorem cut_some {u : HO} (e : cut hid H b = some u) : b ∉ hid ∧ H b = some u := by
  by_cases n : b ∈ hid
  · rw [cut_in n] at e
    cases e
  · rw [cut_out n] at e
    exact ⟨n, e⟩
/-- an object's description, told beside other ones -/
theorem ok_beside (x : ObjOk P w H h b o) (ho : ∀ c, H c = some (.own b) → H' c = some (.own b)) (ht : ∀ c xs, H c = some (.tup xs) → H' c = some (.tup xs)) : ObjOk P w H' h b o :=
  x.stay (fun _ _ _ e => e) ho ht
theorem ok_hidden (m : Hides o) (x : ObjOk P w H h b o) (k : ∀ u, h.get? b = some u → h'.get? b = some u) : ObjOk P w H' h' b o := by
  cases o with
  | lst xs =>
    obtain ⟨z, its, n, r, e⟩ := x
    exact ⟨z, its, n, r, k _ e⟩
  | dK kvs =>
    obtain ⟨z, y, vs, r, u, es, ep, e, q⟩ := x
    exact ⟨z, y, vs, r, u, es, ep, k _ e, q⟩
  | ext φ =>
    obtain ⟨p, ⟨u, e⟩, q⟩ := x
    exact ⟨q _ _ p k, ⟨u, k _ e⟩, q⟩
  | _ => exact m.elim
theorem hides_there (m : Hides o) (x : ObjOk P w H h b o) : ∃ u, h.get? b = some u := by
  cases o with
  | lst xs =>
    obtain ⟨_, _, _, _, e⟩ := x
    exact ⟨_, e⟩
  | dK kvs =>
    obtain ⟨_, _, _, _, u, _, _, e, _⟩ := x
    exact ⟨u, e⟩
  | ext φ =>
    obtain ⟨_, e, _⟩ := x
    exact e
  | _ => exact m.elim
theorem env0_cut {K : PySem.W.Frag} {mg : Str → Option Value} {base : Heap} {A : Around} {outer : List Env} {s : Shared} (m : ∀ b ∈ hid, ∀ o, H b = some o → Hides o) (e : Env0 P w K mg base A outer s H) : Env0 P w K mg base A outer s (cut hid H) := by
  refine ⟨e.frames, e.mod, fun b o q => ⟨(e.bs b o q).1, ?_⟩, e.bsz, e.funs, fun b q => ?_, fun b o q => ?_, e.bare⟩
  · unfold cut
    split
    · rfl
    · exact (e.bs b o q).2
  · unfold cut
    split
    · rfl
    · exact e.frf b q
  · obtain ⟨n, q⟩ := cut_some q
    refine ok_beside (e.hok b o q) (fun c z => ?_) fun c xs z => ?_
    · rw [cut_out fun y => (m c y _ z).elim]
      exact z
    · rw [cut_out fun y => (m c y _ z).elim]
      exact z
theorem ce_glue {outer : List Env} {s s' : Shared} {Q : VK} {u : Value} (m : ∀ b ∈ hid, ∃ o, H b = some o ∧ Hides o) (hok : HOk P w H s.heap) (frf : ∀ b ∈ frs outer, H b = none) (c : CE outer P w (cut hid H) s (fun v G => (∀ b ∈ hid, G b = none) → Q v (glue hid H G)) u s') : CE outer P w H s Q u s' := by
  obtain ⟨v, G, os, bare, un, hok', r, q⟩ := c
  have th : ∀ b ∈ hid, ∃ o, s.heap.get? b = some o := fun b hb => by
    obtain ⟨o, e, q⟩ := m b hb
    exact hides_there q (hok b o e)
  have gone : ∀ b ∈ hid, G b = none := fun b hb => by
    obtain ⟨o, e⟩ := th b hb
    exact un.free b o e (cut_in hb) (by simp)
  have kept : ∀ b ∈ hid, ∀ o, s.heap.get? b = some o → s'.heap.get? b = some o := fun b hb o e => by
    obtain ⟨u, e1, _⟩ := m b hb
    exact un.keep b o e (cut_in hb) (fun z => by rw [frf b z] at e1; cases e1) (by simp)
  have nocut : ∀ {b : Addr}, H b = none → cut hid H b = none := fun {b} e => by
    unfold cut
    split
    · rfl
    · exact e
  refine ⟨v, glue hid H G, os, bare, ⟨fun b o e n => un.keep b o e (nocut n), fun b o e n => un.slot b o e (nocut n), fun b o e n x => ?_, un.there, fun b xs e => ?_, fun b o u e => ?_, fun b ps e => ?_⟩, fun b o e => ?_, r, q gone⟩
  · by_cases hb : b ∈ hid
    · rw [glue_in hb]
      exact n
    · rw [glue_out hb]
      exact un.free b o e (nocut n) x
  · by_cases hb : b ∈ hid
    · rw [glue_in hb]
      exact e
    · rw [glue_out hb]
      exact un.tups b xs (by rw [cut_out hb]; exact e)
  · by_cases hb : b ∈ hid
    · rw [glue_in hb]
      exact e
    · rw [glue_out hb]
      exact un.frzs b o u (by rw [cut_out hb]; exact e)
  · by_cases hb : b ∈ hid
    · exact ⟨#[], by rw [glue_in hb, e, Array.append_empty]⟩
    · rw [glue_out hb]
      exact un.tbls b ps (by rw [cut_out hb]; exact e)
  · by_cases hb : b ∈ hid
    · rw [glue_in hb] at e
      obtain ⟨o', e1, e2⟩ := m b hb
      rw [e] at e1
      cases e1
      exact ok_hidden e2 (hok b o e) (kept b hb)
    · rw [glue_out hb] at e
      have out : ∀ {c : Addr} {u : HO}, G c = some u → glue hid H G c = some u := fun {c u} z => by
        rw [glue_out fun y => by rw [gone c y] at z; cases z]
        exact z
      exact ok_beside (hok' b o e) (fun c z => out z) fun c xs z => out z
end
/-- f(..): what the promise asks; hid: what the callee is not told of -/
def tDf (sp : Sp) (E : XK) (t : TA) : TE := fun σ H Q => t σ H fun vs H1 => sp vs H1 Q E ∨ ∃ hid : List Addr, (∀ b ∈ hid, ∃ o, H1 b = some o ∧ Hides o) ∧ sp vs (cut hid H1) (fun v G => (∀ b ∈ hid, G b = none) → Q v (glue hid H1 G)) E0
section
variable {X : Cx} {k j : Nat} {G : Bool} {x : Str} {sp : Sp} {E : XK} {e : Expr} {es : List Expr} {t : TA} {p pos : Pos}
theorem run_df {pins : List (Addr × Obj)} {σ : L2.St} {H : Hp} {s : Shared} {Q : VK} {f : Addr} {fd : FuncData} {ps : List Str} {us : List Value} {vs : List V} (F : Rn X.prog X.w X.K X.mg X.base G k f fd ps sp) (hr : Room k X.A) (hg : G = true → X.A.guards = some []) (hb : L2.Binds X.K fd ps [])
    (hx : Passes (L2.CX X.prog X.w) X E) (I : Inv X pins σ H s) (r : Vals vs us) (h : sp vs H Q E ∨ ∃ hid : List Addr, (∀ b ∈ hid, ∃ o, H b = some o ∧ Hides o) ∧ sp vs (cut hid H) (fun v G => (∀ b ∈ hid, G b = none) → Q v (glue hid H G)) E0) : wpAny (model X.prog X.w) X.A (call (.ref f) us) (EP X pins σ Q) X.xe s := by
  have hl : vs.length = ps.length := h.elim (F.len _ _ _ _) fun ⟨_, _, q⟩ => F.len _ _ _ _ q
  have hb' := hb s us I.kIn (by rw [List.append_nil, ← r.length]; exact hl)
  rw [List.append_nil] at hb'
  rcases h with h | ⟨hid, m, h⟩
  · refine wpAny_call (codeAny_mono (F.run (s := s) (args := ⟨us, []⟩) hr hg I.env0 hb' r h) fun y s' hq => ?_)
    match y, hq with
    | .error e, hq => exact hx pins σ H s e s' I hq
    | .ok (.ret u), hq => exact I.after hq
  · refine wpAny_call (codeAny_mono (F.run (s := s) (args := ⟨us, []⟩) hr hg (env0_cut (fun b hb o e => by obtain ⟨o', e1, e2⟩ := m b hb; rw [e] at e1; cases e1; exact e2) I.env0) hb' r h) fun y s' hq => ?_)
    match y, hq with
    | .error e, hq =>
      obtain ⟨_, _, _, _, _, _, _, _, _, _, _, _, z⟩ := hq
      exact z.elim
    | .ok (.ret u), hq => exact I.after (ce_glue m I.hok I.env0.frf hq)
theorem pe_df (d : Df X.prog X.w X.K X.mg X.base G k x sp) (hr : Room j X.A) (hk : k ≤ j) (hg : G = true → X.A.guards = some []) (gl : Gl X x) (hx : Passes (L2.CX X.prog X.w) X E) (ha : PA X (e :: es) t)
    (hdb : (x == ("__debug__" : Str)) = false := by decide) (he : starEach (e :: es) X.env = (false, eval e X.env) :: starEach es X.env := by rfl) (hpl : (backTo pos (starEach es X.env)).any (·.1) = false := by rfl) :
    PE X (.Call (.Name x p) (e :: es) [] pos) (tDf sp E t) := by
  obtain ⟨f, fd, ps, F, hm, hkp, hb⟩ := d.ex
  refine ⟨fun pins s σ H Q I h => wpAny_Call_Name_kw (ld_glob I gl hm ?_ hdb)⟩
  exact PySem.W.callWith_K (h₀ := X.base) I.ok.mod.kin hkp (thn (ha.run pos pins s σ H _ I h) fun us s1 ⟨vs, H1, I1, r, q⟩ => ⟨I1.kIn, run_df F (hr.mono hk) hg hb hx I1 r q⟩) he hpl
theorem pe_df0 (d : Df X.prog X.w X.K X.mg X.base G k x sp) (hr : Room j X.A) (hk : k ≤ j) (hg : G = true → X.A.guards = some []) (gl : Gl X x) (hx : Passes (L2.CX X.prog X.w) X E) (hdb : (x == ("__debug__" : Str)) = false := by decide) :
    PE X (.Call (.Name x p) [] [] pos) (tDf sp E tNil) := by
  obtain ⟨f, fd, ps, F, hm, hkp, hb⟩ := d.ex
  refine ⟨fun pins s σ H Q I h => wpAny_Call_Name_kw (ld_glob I gl hm ?_ hdb)⟩
  exact PySem.W.callWith_K0 I.kIn hkp (run_df (us := []) F (hr.mono hk) hg hb hx I .nil h)
end
end Aim

namespace Aim
open PySem PySem.Spec PyProof.Rows L2
open LamX (TabB)
/-! ### the law's own call, at its caller: nothing is shown by repr around it -/
/-- what is tracked then: the tables of code, and the script (where the module does not hold it itself) -/
def atEntry (K : PySem.W.Frag) (ts : List Addr) (a : Addr) (o : Obj) (xs : List V) : Hp := fun b =>
  if b ∈ ts then some (.tbl #[]) else if b = a ∧ K.lookup a = none then some (.frz o (.lst xs)) else none
section
variable {K : PySem.W.Frag} {ts : List Addr} {a b : Addr} {o : Obj} {xs : List V}
theorem entry_tab (h : b ∈ ts) : atEntry K ts a o xs b = some (.tbl #[]) := if_pos h
theorem entry_cases {u : HO} (h : atEntry K ts a o xs b = some u) : (b ∈ ts ∧ u = .tbl #[]) ∨ (b ∉ ts ∧ b = a ∧ K.lookup a = none ∧ u = .frz o (.lst xs)) := by
  unfold atEntry at h
  by_cases h1 : b ∈ ts
  · rw [if_pos h1] at h
    exact .inl ⟨h1, (Option.some.inj h).symm⟩
  · rw [if_neg h1] at h
    by_cases h2 : b = a ∧ K.lookup a = none
    · rw [if_pos h2] at h
      exact .inr ⟨h1, h2.1, h2.2, (Option.some.inj h).symm⟩
    · rw [if_neg h2] at h
      cases h
theorem entry_none (h1 : b ∉ ts) (h2 : b = a → K.lookup a ≠ none) : atEntry K ts a o xs b = none := by
  unfold atEntry
  rw [if_neg h1, if_neg fun z => h2 z.1 z.2]
end
/-- an object like a table, empty -/
abbrev tab0 : Obj := { cls := .none, data := .fields #[] }
section
variable {P : Program} {w : World} {K : PySem.W.Frag} {mg mb : Str → Option Value} {k : Nat} {G : Bool} {fa a : Addr} {cs : List (Addr × Addr)} {fd : FuncData} {x : Str} {sp : Sp} {s₁ : Shared} {vs : List Value} {ns : List Int}
theorem call_law (KX : K.In s₁.heap) (hns : s₁.heap.Ns mainGlobals mg) (hb : s₁.heap.Ns builtinsNs mb) (hbb : ∀ x : Str, x ≠ "__name__" → mb x = bootBuiltins x) (hlim : s₁.heap.NoLimit) (hg : s₁.gens = #[])
    (hT : ∀ p ∈ cs, s₁.heap.get? p.2 = some tab0) (nT : ∀ p ∈ cs, K.lookup p.2 = none) (hC : ∀ p ∈ cs, PySem.W.CodeHd s₁.heap p.1 p.2)
    (hbm : ∃ (bm : Addr) (ob : Obj), mg "__builtins__" = some (.ref bm) ∧ bm ≠ builtinsNs ∧ s₁.heap.get? bm = some ob ∧ ob.cls = .type "module" ∧ ob.dict = some builtinsNs ∧ ob.data = .plain)
    (ha : s₁.heap.get? a = some { cls := .type "list", data := .seq vs.toArray }) (hi : IntsAre vs ns) (hl : ns.length ≤ sizeLine) (hr : Room k callerA)
    (F : ∀ base : Heap, K.In base → base.Ns mainGlobals mg → (∀ p ∈ cs, TabB base mg p.1 p.2) → Rn P w K mg base G k fa fd [x] sp) (hbind : ∀ (s : Shared) (u : Value), BindsTo s fd ⟨[u], []⟩ [(x, u)])
    (hsp : ∀ H : Hp, (∀ p ∈ cs, H p.2 = some (.tbl #[])) → SqL K H a (ns.map V.int) → sp [.ref a] H (fun v _ => v = .bl true) E0) :
    codeAny (model P w) callerA (.call (.ref fa) ⟨[.ref a], []⟩) (fun r s' => r = .ok (.ret (.bool true)) ∧ OldK s₁.heap s'.heap ∧ s'.os = s₁.os ∧ AllBare s'.gens) s₁ := by
  let ts := cs.map (·.2)
  let oa : Obj := { cls := .type "list", data := .seq vs.toArray }
  let H := atEntry K ts a oa (ns.map V.int)
  have rv : Vals (ns.map V.int) vs := vals_ints hi
  have tabs : ∀ b ∈ ts, s₁.heap.get? b = some tab0 ∧ K.lookup b = none := by
    rintro b hm
    obtain ⟨p, hp, rfl⟩ := List.mem_map.mp hm
    exact ⟨hT p hp, nT p hp⟩
  have mem : ∀ p ∈ cs, p.2 ∈ ts := fun p hp => List.mem_map_of_mem hp
  have aOut : a ∉ ts := fun z => by
    have y := (tabs a z).1
    rw [ha] at y
    exact nomatch (Option.some.inj y)
  -- an object that is neither a table nor the script is not tracked
  have out : ∀ {b : Addr} {o : Obj}, s₁.heap.get? b = some o → o.data ≠ .fields #[] → (∀ u n, o.data ≠ .seq u n) → H b = none := fun {b o} e n1 n2 => by
    refine entry_none (fun z => ?_) fun z => ?_
    · have y := (tabs b z).1
      rw [e] at y
      cases y
      exact absurd rfl n1
    · rw [z, ha] at e
      cases e
      exact absurd rfl (n2 _ _)
  have stay : ∀ {b : Addr} {o : Obj}, s₁.heap.get? b = some o → H b = none → (hidT s₁.heap H).get? b = some o := fun e n => hidT_get e n
  have names : ∀ {b : Addr} {m : Str → Option Value}, s₁.heap.Ns b m → (hidT s₁.heap H).Ns b m := by
    rintro b m ⟨o, es, ep, e, d, r⟩
    exact ⟨o, es, ep, stay e (out e (by rw [d]; exact fun z => nomatch z) (by rw [d]; exact fun _ _ z => nomatch z)), d, r⟩
  have KB : K.In (hidT s₁.heap H) := fun b o e => stay (KX b o e) (entry_none (fun z => by rw [(tabs b z).2] at e; cases e) fun z y => by rw [z, y] at e; cases e)
  have md : L2.Mod K mg (hidT s₁.heap H) := by
    obtain ⟨mc, l1, l2⟩ := hlim
    exact ⟨KB, names hns, ⟨mb, names hb, hbb⟩, mc, names l1, l2⟩
  have TB : ∀ p ∈ cs, TabB (hidT s₁.heap H) mg p.1 p.2 := fun p hp => by
    have ht := hT p hp
    have gP : mainGlobals ≠ p.2 := fun z => by
      obtain ⟨o, es, ep, e, d, _⟩ := hns
      rw [z, ht] at e
      cases e
      cases d
    refine ⟨?_, ?_, gP⟩
    · obtain ⟨o, us, file, tf, flags, tg, inF, text, tt, e1, r1, r2, r3, r⟩ := hC p hp
      refine ⟨o, us, file, tf, flags, tg, inF, text, tt, stay e1 (out e1 (fun z => ?_) fun u n z => ?_), r1, r2, r3, r⟩
      · rw [r2] at z
        cases z
        simp at r3
      · rw [r2] at z
        cases z
    · obtain ⟨bm, ob, b1, b2, b3, b4, b5, b6⟩ := hbm
      refine ⟨bm, ob, b1, b2, fun z => ?_, fun z => ?_, stay b3 (out b3 (by rw [b6]; exact fun z => nomatch z) (by rw [b6]; exact fun _ _ z => nomatch z)), b4, b5, b6⟩
      · obtain ⟨o, es, ep, e, d, _⟩ := hns
        rw [← z, b3] at e
        cases e
        rw [b6] at d
        cases d
      · rw [z, ht] at b3
        cases b3
        cases b6
  have scr : ObjOk P w H s₁.heap a (.frz oa (.lst (ns.map V.int))) := ⟨ha, by rw [List.length_map]; exact hl, vs, 0, rv, ha⟩
  have ok : HOk P w H s₁.heap := fun b u e => by
    rcases entry_cases e with ⟨m, rfl⟩ | ⟨_, e1, _, rfl⟩
    · exact (tabs b m).1
    · rw [e1]
      exact scr
  have sq : SqL K H a (ns.map V.int) := by
    cases q : K.lookup a with
    | none => exact .inl (.inr ⟨oa, (if_neg aOut).trans (if_pos ⟨rfl, q⟩)⟩)
    | some o =>
      have e := KX a o q
      rw [ha] at e
      cases e
      exact .inr ⟨_, vs.toArray, _, q, rfl, rfl, rfl, by rw [List.size_toArray, hi.length]; exact hl, by simpa using rv⟩
  have tabH : ∀ p ∈ cs, H p.2 = some (.tbl #[]) := fun p hp => entry_tab (mem p hp)
  have e0 : Env0 P w K mg (hidT s₁.heap H) callerA [] s₁ H := ⟨rfl, md, fun b o e => of_hidT e, Nat.le_of_eq (hidT_size _ _), trivial, (by intro b z; exact absurd (show b ∈ ([] : List Addr) from z) (by simp)), ok, AllBare.of_eq hg⟩
  refine codeAny_mono ((F _ KB (names hns) TB).run (us := [.ref a]) (vs := [V.ref a]) hr (fun _ => rfl) e0 (hbind s₁ (.ref a)) (.cons rfl .nil) (hsp H tabH sq)) fun r s' h => ?_
  match r, h with
  | .error e, h =>
    obtain ⟨_, _, _, _, _, _, _, _, _, _, _, _, z⟩ := h
    exact z.elim
  | .ok (.ret u), ⟨v, H', os, bare, un, hok', r', q⟩ =>
    have q : v = .bl true := q
    rw [q] at r'
    obtain rfl : u = Value.bool true := r'
    -- what is no table stands as it was
    have key : ∀ b o, b ∉ ts → s₁.heap.get? b = some o → s'.heap.get? b = some o := fun b o nb e => by
      cases q : H b with
      | none => exact un.keep b o e q (by intro z; exact absurd (show b ∈ ([] : List Addr) from z) (by simp)) (by simp)
      | some u =>
        rcases entry_cases q with ⟨m, _⟩ | ⟨_, e1, _, rfl⟩
        · exact absurd m nb
        · obtain ⟨g1, _⟩ := ok b _ q
          obtain ⟨g2, _⟩ := hok' b _ (un.frzs b _ _ q)
          rw [e] at g1
          cases g1
          exact g2
    have grown : ∀ p ∈ cs, ∃ more : Array Value, s'.heap.get? p.2 = some { cls := .none, data := .fields more } := fun p hp => by
      obtain ⟨more, z⟩ := un.tbls p.2 #[] (tabH p hp)
      exact ⟨_, hok' p.2 _ z⟩
    refine ⟨rfl, ⟨fun b o e => ?_, fun b o e => ?_⟩, os, bare⟩
    · by_cases m : b ∈ ts
      · obtain ⟨p, hp, rfl⟩ := List.mem_map.mp m
        obtain ⟨more, hm⟩ := grown p hp
        have e' := hT p hp
        rw [e] at e'
        cases e'
        exact .inr (.inl ⟨((hC p hp).tab e).isCodeTable, rfl, #[], more, rfl, by simpa using hm⟩)
      · exact .inl (key b o m e)
    · by_cases m : b ∈ ts
      · obtain ⟨p, hp, rfl⟩ := List.mem_map.mp m
        obtain ⟨more, hm⟩ := grown p hp
        exact ⟨_, hm⟩
      · exact ⟨o, key b o m e⟩
/-- what is to be known of the law's def at the head's heap h -/
def AtLaw (l : PySem.W.OpenLaw) (w : World) (K : PySem.W.Frag) (k n : Nat) (x : Str) (mg : Str → Option Value) (fa : Addr) (h : Heap) : Prop :=
  ∃ (fd : FuncData) (cs : List (Addr × Addr)) (sp : Sp), (∀ p ∈ cs, h.get? p.2 = some tab0 ∧ K.lookup p.2 = none ∧ PySem.W.CodeHd h p.1 p.2) ∧ (∀ (s : Shared) (u : Value), BindsTo s fd ⟨[u], []⟩ [(x, u)]) ∧
    (∀ (H : Hp) (a : Addr) (ns : List Int), ns.length ≤ n → (∀ z ∈ ns, Builtin.Int.intBits z ≤ 1048576) → (∀ p ∈ cs, H p.2 = some (.tbl #[])) → SqL K H a (ns.map V.int) → sp [.ref a] H (fun v _ => v = .bl true) E0) ∧
    ∀ base : Heap, K.In base → base.Ns mainGlobals mg → (∀ p ∈ cs, TabB base mg p.1 p.2) → Rn l.prog w K mg base true k fa fd [x] sp
theorem walk_law {l : PySem.W.OpenLaw} {n : Nat} {q : Program} {loose : List Str} {XP : (Str → Option Value) → Heap → Prop} {YP : World → Heap → Prop} {d : DefRec} {K : Params → PySem.W.Frag}
    (hn : l.most = some n) (hn2 : n ≤ sizeLine) (hdf : d.params.defaults = []) (hr : Room k callerA) (hY : ∀ (w : World) (h : Heap), YP w h → (K w.params).In h)
    (F : ∀ (w : World) (mg : Str → Option Value) (fa : Addr) (h : Heap), YP w h → (K w.params).In h → h.Ns mainGlobals mg → mg d.name = some (.ref fa) →
      (∀ (x : Str) (d : DefRec) (c P : Addr), (recsOf q).find? (fun e => e.name == x) = some d → PySem.W.tabIn (K w.params) x = some (c, P) → PySem.W.CodeHd h c P ∧ h.get? P = some tab0) → AtLaw l w (K w.params) k n x mg fa h) :
    PySem.W.WalkO q loose XP YP l.row.toRowW d [] (fun f vs => PySem.call f vs) := by
  refine Att.attach_callB hn hdf fun w s₀ s₁ mg mb fa o pm cd doc a vs ns G Y ho hd hcd hmg hobj hints hlen hbits hg => ?_
  obtain ⟨fd, cs, sp, hT, hb, hsp, hF⟩ := F w mg fa _ Y (hY w _ Y) G.T.g hmg fun x d c P h1 h2 => PySem.W.tab_of G.T (hY w _ Y) h1 h2
  exact call_law (hY w _ Y) G.T.g G.T.b G.T.builtins G.T.nolimit hg (fun p hp => (hT p hp).1) (fun p hp => (hT p hp).2.1) (fun p hp => (hT p hp).2.2) G.T.bmain hobj hints (Nat.le_trans hlen hn2) hr hF hb fun H hH hS => hsp H a ns hlen hbits hH hS
end
end Aim

namespace Aim
open PySem PySem.Spec PyProof.Rows L2
open LamX (TabB CodeO GivesTo)
/-- v = None / try: a() / except e as n: v = n / return v: the error that a() raises, or None -/
def TTc (K : PySem.W.Frag) (AE : Addr) : (XK → Hp → VK → Prop) → Hp → VK → Prop := fun tl H Q =>
  tl (fun cls d H' => PySem.W.exmOne K cls (.ref AE) = some true ∧ ∀ a, H' a = none → Q (.ref a) (upd H' a (XcV cls d a))) H fun _ H' => Q .non H'
theorem caught_gives {X : Cx} {x v a n e q : Str} {sg : Scope} {g AE : Addr} {cdg : Value} {j : Nat} {p1 p2 p3 p4 p5 p6 p7 p8 p9 p10 p11 p12 p13 p14 : Pos} (hge : sg.names.lookup e = some .globalImplicit) (hme : X.mg e = some (.ref AE)) (hde : (e == ("__debug__" : Str)) = false)
    (hv : sg.names.lookup v = some .local) (hn : sg.names.lookup n = some .local) (hnd : [a, v, n].Nodup) (hdv : (v == ("__debug__" : Str)) = false) (hcv : (v == ("__classdict__" : Str)) = false) (hdn : (n == ("__debug__" : Str)) = false) (hcn : (n == ("__classdict__" : Str)) = false) :
    GivesTo X [a, v, n] x sg g cdg [.Assign [.Name v p1] (.Constant .none j p2) p3, .Try [.Expr (.Call (.Name a p4) [] [] p5) p6] [.ExceptHandler (some (.Name e p7)) (some n) [.Assign [.Name v p8] (.Name n p9) p10] p11] [] [] p12, .Return (some (.Name v p13)) p14] a q (TTc X.K AE) := by
  intro f c' s H Q tl act hc h
  let Y := (cxOf C8.CX0 X.prog X.w X.K X.mg X.base [a, v, n] x sg g cdg X.A X.stack s H C8.E0).nox
  have hgl : Gl Y e := hge
  refine ⟨_, pss_cons (ps_asg pe_non (pg_name (i := 1) hnd rfl (.inl hv) (.inr hv))) (pss_cons (ps_try_keep (X := Y) (i := 2) (c := .ref AE) (Wout := fun _ _ _ _ => False)
      (tb := fun W D σ H => ∃ Ech : XK, (∀ cls d σ' H', Ech cls d H' → W cls d σ' H') ∧ σ[0]? = some (some (.ref f)) ∧ H c' = some (CodeO c' q) ∧ tl Ech H fun _ H' => D.nx σ H')
      rfl rfl rfl hnd rfl hn hgl hme hde LamX.takes0 (fun W pn xe tk _ => ?_) (fun b oe pn => pss_one (ps_asg (pe_var (i := 2) rfl (.inl hn) hdn hcn) (pg_name (i := 1) hnd rfl (.inl hv) (.inr hv))))) (pss_one (ps_ret (pe_var (i := 1) rfl (.inl hv) hdv hcv)))), ?_⟩
  · refine ⟨fun pins s' σ H' D I h' => ?_⟩
    obtain ⟨Ech, hW, h1, h2, h3⟩ := h'
    exact (pss_one (ps_expr (pos := p6) (act W pn xe Ech p4 p5 tk hW))).run pins s' σ H' D I ⟨h1, h2, h3⟩
  · refine ⟨fun cls d H' => PySem.W.exmOne X.K cls (.ref AE) = some true ∧ ∀ a, H' a = none → Q (.ref a) (upd H' a (XcV cls d a)), fun cls d σ' H' hh => ⟨true, hh.1, fun _ b hb hl => ?_, fun z => nomatch z⟩, rfl, hc, ?_⟩
    rotate_left
    · have e : (fun (_ : V) (H' : Hp) => ∃ u, (some (some V.non) : Option (Option V)) = some (some u) ∧ Q u H') = fun _ H' => Q .non H' := by
        funext _ H'
        exact propext ⟨fun ⟨_, e, q⟩ => by cases e; exact q, fun q => ⟨_, rfl, q⟩⟩
      have h : tl _ H _ := h
      rw [← e] at h
      exact h
    match σ', hl with
    | [_, _, _], _ => exact ⟨_, rfl, _, rfl, hh.2 b hb⟩
end Aim

namespace Aim
open PySem PySem.Spec PyProof.Rows L2
open LamX (TabB)
/-! ### what stands behind the top -/
/-- a def of the text behind the top -/
structure Has (K : PySem.W.Frag) (mg : Str → Option Value) (x : Str) (st : Stmt) : Prop where
  ex : ∃ (f : Addr) (fd : FuncData), L2.Fun K x x st f fd ∧ mg x = some (.ref f)
/-- the built-in names that no global hides -/
structure Blt (mg : Str → Option Value) : Prop where
  n_len : mg "len" = none
  n_int : mg "int" = none
  n_abs : mg "abs" = none
  n_isinstance : mg "isinstance" = none
  n_bool : mg "bool" = none
  n_str : mg "str" = none
  n_list : mg "list" = none
  n_tuple : mg "tuple" = none
  n_range : mg "range" = none
  n_max : mg "max" = none
  n_min : mg "min" = none
  n_all : mg "all" = none
  n_any : mg "any" = none
  n_zip : mg "zip" = none
  n_repr : mg "repr" = none
  n_super : mg "super" = none
  n_sorted : mg "sorted" = none
  n_enumerate : mg "enumerate" = none
  n_dict : mg "dict" = none
  n_set : mg "set" = none
  n_bytes : mg "bytes" = none
  n_sum : mg "sum" = none
/-! ### expressions in short -/
section
variable {X : Cx} {x : Str} {v : V} {pos : Pos}
theorem pe_gl (hg : Gl X x) (h : ∃ u, X.mg x = some u ∧ RelV v u) (hd : (x == ("__debug__" : Str)) = false := by decide) : PE X (.Name x pos) (tC v) := by
  obtain ⟨u, h1, h2⟩ := h
  exact pe_glob hg h1 h2 hd
/-- isinstance(x, (tuple, list)) of data -/
def rIsTL (K : PySem.W.Frag) : List V → Hp → VK → Prop := fun xs H Q => ∃ (x : V) (d : PyData) (tp : Addr), xs = [x, .ref tp] ∧ H tp = some (.tup [.ty "tuple", .ty "list"]) ∧ DD K H x d ∧ Q (.bl (isD "tuple" d || isD "list" d)) H
theorem call_isTL : CallR X (.builtin "isinstance") (rIsTL X.K) := by
  intro pins s σ H xs us Q I r ⟨x, d, tp, ex, hT, hd, q⟩
  refine call_isiT pins s σ H xs us Q I r ⟨x, tp, _, _, [.type "tuple", .type "list"], _, ex, hT, .cons (.ty _) (.cons (.ty _) .nil), hd.ty, ?_, q⟩
  refine kitAny_cons (kit_D d (T := "tuple") (by simp)) (fun z => ?_) fun z => by rw [z, Bool.true_or]
  refine kitAny_cons (kit_D d (T := "list") (by simp)) (fun z2 => ?_) fun z2 => by rw [z2, Bool.or_true]
  rw [z, z2]
  rfl
end
/-! ### data, small -/
section
variable {K : PySem.W.Frag} {H : Hp}
/-- data without parts: None, truths, numbers, texts -/
def flatD : PyData → Bool
  | .none | .bool _ | .int _ => true
  | .str x => PyData.canLay0 (.str x)
  | _ => false
theorem DD.tup0 {p : Addr} (h : H p = some (.tup [])) : DD K H (.ref p) (.tuple []) := .tup (.inl (.inl h)) .nil
theorem DD.lst0 {p : Addr} (h : H p = some (.lst [])) : DD K H (.ref p) (.list []) := .lst (.inl (.inl h)) .nil
theorem DD.tupOf {p : Addr} {xs : List V} {ds : List PyData} (h : H p = some (.tup xs)) (d : DDs K H xs ds) : DD K H (.ref p) (.tuple ds) := .tup (.inl (.inl h)) d
theorem DD.lstOf {p : Addr} {xs : List V} {ds : List PyData} (h : H p = some (.lst xs)) (d : DDs K H xs ds) : DD K H (.ref p) (.list ds) := .lst (.inl (.inl h)) d
theorem DD.isTuple {v : V} {d : PyData} (h : DD K H v d) (e : isD "tuple" d = true) : ∃ a xs ds, v = .ref a ∧ d = .tuple ds ∧ SqT K H a xs ∧ DDs K H xs ds := by
  cases h with
  | tup h1 h2 => exact ⟨_, _, _, rfl, rfl, h1, h2⟩
  | _ => simp [isD] at e
theorem DD.isList {v : V} {d : PyData} (h : DD K H v d) (e : isD "list" d = true) : ∃ a xs ds, v = .ref a ∧ d = .list ds ∧ SqL K H a xs ∧ DDs K H xs ds := by
  cases h with
  | lst h1 h2 => exact ⟨_, _, _, rfl, rfl, h1, h2⟩
  | _ => simp [isD] at e
theorem DD.int_iff {v : V} {i : Int} (h : DD K H v (.int i)) : v = .int i := by cases h; rfl
theorem DD.bl_iff {v : V} {b : Bool} (h : DD K H v (.bool b)) : v = .bl b := by cases h; rfl
theorem DD.str_iff {v : V} {x : Str} (h : DD K H v (.str x)) : v = .str x := by cases h; rfl
theorem DD.non_iff {v : V} (h : DD K H v .none) : v = .non := by cases h; rfl
def noneD : PyData → Bool
  | .none => true
  | _ => false
theorem DD.is_none {v : V} {d : PyData} (h : DD K H v d) : decide (v = .non) = noneD d := by
  cases h <;> simp [noneD]
end
end Aim

namespace Aim
open PySem PySem.Spec PyProof.Rows L2
open LamX (TabB Tabs)
/-! ### comprehensions: the new list told with what it holds -/
section
variable {K : PySem.W.Frag} {TT : List (Addr × Str)}
theorem lst_no_tab {H : Hp} {D : Addr} {acc bcc : List V} (h : H D = some (.lst acc)) (t : Tabs TT H) : Tabs TT (upd H D (.lst bcc)) := fun p hp => by
  obtain ⟨ps, h1, h2, h3⟩ := t p hp
  refine ⟨ps, ?_, h2, fun pos cv hc => ?_⟩
  · rw [upd_ne fun z => by rw [z, h] at h1; cases h1]
    exact h1
  · obtain ⟨c, e1, e2⟩ := h3 pos cv hc
    refine ⟨c, e1, ?_⟩
    rw [upd_ne fun z => by rw [z, h] at e2; unfold LamX.CodeO at e2; cases e2]
    exact e2
theorem Ext.put {H H' : Hp} {D : Addr} {acc bcc : List V} (e : Ext TT H H') (n : H D = none) (h : H' D = some (.lst acc)) : Ext TT H (upd H' D (.lst bcc)) := by
  refine ⟨fun b o q k1 k2 => ?_, fun t => lst_no_tab h (e.2 t)⟩
  rw [upd_ne (ne_of_none q n)]
  exact e.1 b o q k1 k2
theorem upd_none {H : Hp} {p D : Addr} {o : HO} (h : upd H p o D = none) : H D = none := by
  unfold upd at h
  split at h
  · cases h
  · exact h
theorem Ext.free {H H' : Hp} {b : Addr} (e : Ext TT H H') (h : H' b = none) : H b = none ∨ ∃ n, H b = some (PotO n b) ∨ ∃ ps, H b = some (.tbl ps) := by
  cases q : H b with
  | none => exact .inl rfl
  | some o =>
    by_cases h1 : ∃ n, o = PotO n b
    · obtain ⟨n, rfl⟩ := h1
      exact .inr ⟨n, .inl rfl⟩
    · by_cases h2 : ∃ ps, o = .tbl ps
      · obtain ⟨ps, rfl⟩ := h2
        exact .inr ⟨0, .inr ⟨ps, rfl⟩⟩
      · have y := e.1 b o q (fun n z => h1 ⟨n, z⟩) fun ps z => h2 ⟨ps, z⟩
        rw [h] at y
        cases y
theorem walk_zipT {a b : Addr} {xs ys : List V} {n : Nat} (h1 : n = xs.length) (h2 : n = ys.length) : Walk (RZ.ItzT K a b) n (fun H => SqT K H a xs ∧ SqT K H b ys) (YPair (fun i => xs[i]?) (fun i => ys[i]?)) := by
  refine ⟨fun i H hi q => ⟨xs, ys, xs[i]'(by omega), ys[i]'(by omega), q.1, q.2, by simp, by simp⟩, fun H q => ⟨xs, ys, q.1, q.2, .inl (by omega)⟩, fun i H v H' _ q y => ?_⟩
  obtain ⟨T, x, z, e1, e2, e3, e4, e5⟩ := y
  exact ⟨T, x, z, e1, e2, e3, e4 _ q.1, e5 _ q.2⟩
end
/-! ### what the law's own look asks of data -/
/-- a whole number, no truth -/
def isI : PyData → Bool
  | .int _ => true
  | _ => false
theorem isI_is (d : PyData) : (isD "int" d && !isD "bool" d) = isI d := by cases d <;> rfl
theorem isI_int {d : PyData} (h : isI d = true) : ∃ i, d = .int i := by
  cases d with
  | int i => exact ⟨i, rfl⟩
  | _ => cases h
def inD (d : PyData) (lo hi : Int) : Bool :=
  match d with
  | .int i => decide (lo ≤ i) && decide (i ≤ hi)
  | _ => false
theorem inD_no {d : PyData} {lo hi : Int} (h : ¬ isI d = true) : inD d lo hi = false := by
  cases d with
  | int i => exact absurd rfl h
  | _ => rfl
theorem inD_int {d : PyData} {lo hi : Int} (h : inD d lo hi = true) : ∃ i, d = .int i ∧ lo ≤ i ∧ i ≤ hi := by
  cases d with
  | int i =>
    have h : (decide (lo ≤ i) && decide (i ≤ hi)) = true := h
    rw [Bool.and_eq_true, decide_eq_true_eq, decide_eq_true_eq] at h
    exact ⟨i, rfl, h⟩
  | _ => cases h
/-- trees of lists and tuples over flat data, n deep at most -/
inductive Tree : Nat → PyData → Prop
  | leaf {n : Nat} {d : PyData} (h : flatD d = true) : Tree n d
  | tup {n : Nat} {ds : List PyData} (h : ∀ d ∈ ds, Tree n d) (l : ds.length ≤ 1000) : Tree (n + 1) (.tuple ds)
  | lst {n : Nat} {ds : List PyData} (h : ∀ d ∈ ds, Tree n d) (l : ds.length ≤ 1000) : Tree (n + 1) (.list ds)
theorem flat_eqv {d : PyData} (h : flatD d = true) : PyData.eqv d d = true := by
  cases d <;> first | rfl | (simp [PyData.eqv]; done) | (cases h; done)
theorem flat_shaped {d : PyData} (h : flatD d = true) : SeqAt.shaped d = true := by
  cases d with
  | str x => exact Bool.and_eq_true_iff.mpr ⟨h, by simp [PyData.depth]⟩
  | none => rfl
  | bool b => rfl
  | int i => rfl
  | _ => cases h
theorem flat_no {d : PyData} (h : flatD d = true) : isD "tuple" d = false ∧ isD "list" d = false := by
  cases d <;> first | exact ⟨rfl, rfl⟩ | (cases h; done)
/-! ### heaps that grow by new objects -/
def Grow (H H' : Hp) : Prop := ∀ b o, H b = some o → H' b = some o
theorem Grow.refl (H : Hp) : Grow H H := fun _ _ e => e
theorem Grow.new {H : Hp} {p : Addr} {o : HO} (h : H p = none) : Grow H (upd H p o) := fun b u e => by
  rw [upd_ne (ne_of_none e h)]
  exact e
theorem Grow.trans {H H1 H2 : Hp} (a : Grow H H1) (b : Grow H1 H2) : Grow H H2 := fun c o e => b c o (a c o e)
theorem Grow.ext {TT : List (Addr × Str)} {H H' : Hp} (a : Grow H H') : Ext TT H H' := .of a
/-! ### data that repr shows in its room -/
def goodB (d : PyData) : Bool := d.showable && (!d.hasDict || noList d) && decide (d.depth ≤ 40) && decide (d.shown.length ≤ 100000)
def Good (d : PyData) : Prop := goodB d = true
theorem Good.all {d : PyData} (h : Good d) : d.showable = true ∧ (d.hasDict = true → noList d = true) ∧ d.depth ≤ 40 ∧ d.shown.length ≤ sizeLine := by
  unfold Good goodB at h
  simp only [Bool.and_eq_true, decide_eq_true_eq, Bool.or_eq_true, Bool.not_eq_true'] at h
  obtain ⟨⟨⟨h1, h2⟩, h3⟩, h4⟩ := h
  refine ⟨h1, fun z => ?_, h3, Nat.le_trans h4 (by decide)⟩
  rcases h2 with h2 | h2
  · rw [h2] at z
    cases z
  · exact h2
theorem good_small {i : Int} (h0 : -3 ≤ i) (h1 : i ≤ 12) : Good (.int i) := by
  have h : ∀ k ∈ List.range 16, goodB (.int ((k : Nat) - 3)) = true := by
    have y : (List.range 16).all (fun k => goodB (.int ((k : Nat) - 3))) = true := by decide +kernel
    exact List.all_eq_true.mp y
  have z := h (i + 3).toNat (List.mem_range.mpr (by omega))
  have e : (((i + 3).toNat : Nat) : Int) - 3 = i := by omega
  rw [e] at z
  exact z
section
variable {K : PySem.W.Frag} {H H' : Hp}
theorem DD.grow {v : V} {d : PyData} (h : DD K H v d) (e : Grow H H') : DD K H' v d := h.mono (e.ext (TT := []))
theorem DDs.grow {v : List V} {d : List PyData} (h : DDs K H v d) (e : Grow H H') : DDs K H' v d := h.mono (e.ext (TT := []))
theorem Grow.sqT {a : Addr} {xs : List V} (e : Grow H H') (h : SqT K H a xs) : SqT K H' a xs := (e.ext (TT := [])).sqT h
theorem Grow.sqL {a : Addr} {xs : List V} (e : Grow H H') (h : SqL K H a xs) : SqL K H' a xs := (e.ext (TT := [])).sqL h
theorem Grow.lst {a : Addr} {xs : List V} (e : Grow H H') (h : H a = some (.lst xs)) : H' a = some (.lst xs) := e _ _ h
theorem Grow.free {b : Addr} (e : Grow H H') (h : H' b = none) : H b = none := by
  cases q : H b with
  | none => rfl
  | some o =>
    rw [e b o q] at h
    cases h
theorem Grow.put {D : Addr} {o : HO} (e : Grow H H') (n : H D = none) : Grow H (upd H' D o) := fun b u q => by
  rw [upd_ne (ne_of_none q n)]
  exact e b u q
end
/-! ### a list beside the empty one -/
section
variable {X : Cx}
def rNeE (K : PySem.W.Frag) : R2 := fun x y H Q => ∃ (a b : Addr) (xs : List V), x = .ref a ∧ y = .ref b ∧ SqL K H a xs ∧ SqL K H b [] ∧ Q (.bl (!xs.isEmpty)) H
theorem op_neE (hu : X.A.units + 64 < cLine) : OpR X (compareOp .NotEq) (rNeE X.K) := by
  intro pins s σ H x y v u Q I rx ry ⟨a, b, xs, ex, ey, ha, hb, q⟩
  subst ex
  subst ey
  obtain rfl : v = Value.ref a := rx
  obtain rfl : u = Value.ref b := ry
  obtain ⟨i1, r1, ⟨o1, n1, g1, c1, _, d1⟩, _⟩ := I.list ha
  obtain ⟨i2, r2, ⟨o2, n2, g2, c2, _, d2⟩, _⟩ := I.list hb
  cases r2
  have l1 : s.heap.IsList a i1.toArray := ⟨o1, g1, c1, n1, d1⟩
  have l2 : s.heap.IsList b #[] := ⟨o2, g2, c2, n2, d2⟩
  cases r1 with
  | nil => exact SeqAt.RcNeAt.lists l1 l2 rfl (by omega) (e := fun _ => true) (fun j h => absurd h (by simp)) _ _ _ _ ⟨.bl false, H, I, rfl, q⟩
  | cons h t => exact SeqAt.RcNeAt.lists_lengths l1 l2 (by simp) (by omega) _ _ _ _ ⟨.bl true, H, I, rfl, q⟩
end
end Aim

namespace Aim
open PySem PySem.Spec PyProof.Rows L2
open LamX (TabB Tabs CodeO GivesTo)
/-! ### a def whose code object is known (it makes lambdas) -/
structure HasC (K : PySem.W.Frag) (mg : Str → Option Value) (x : Str) (st : Stmt) (c : Addr) : Prop where
  ex : ∃ (f : Addr) (oc : Value) (od : Option Addr) (kV doc pm : Value) (an : Option Addr) (ct : Value) (osl : Array (Option Value)),
    K.lookup f = some ⟨oc, od, .func (PySem.W.fnOf x x (defArgs st) (defBody st) (defScope st) .none kV doc pm an (.ref c) ct), osl⟩ ∧ PySem.W.codeIn K (.ref c) x = true ∧ PySem.W.keepIn K (.ref f) = true ∧ mg x = some (.ref f)
section
variable {P : Program} {w : World} {K : PySem.W.Frag} {mg : Str → Option Value} {base : Heap} {G : Bool}
theorem df_okC {x : Str} {st : Stmt} {c : Addr} {N ps : List Str} {k : Nat} {sp : Sp} (F : HasC K mg x st c) (S : FnScope N ps (defScope st)) (len : ∀ vs H Q E, sp vs H Q E → vs.length = ps.length)
    (hb : ∀ (kV doc pm : Value) (an : Option Addr) (cdv ct : Value) (us : List Value), us.length = ps.length → bindArgs (PySem.W.fnOf x x (defArgs st) (defBody st) (defScope st) .none kV doc pm an cdv ct) ⟨us, []⟩ = pure (ps.zip us))
    (body : ∀ (f : Addr) (A : Around) (outer : List Env) (s : Shared) (H : Hp) (vs : List V) (Q : VK) (E : XK), Room k (A.deeper (envOfC x (defScope st) s.heap.objs.size f (.ref c))) → (G = true → A.guards = some []) → sp vs H Q E →
      ∃ t, PSs (cxOf (L2.CX P w) P w K mg base N x (defScope st) f (.ref c) A outer s H E).nox (defBody st) t ∧ t { nx := fun _ H' => Q .non H', rt := Q } (start N vs) H) : Df P w K mg base G (k + 1) x sp := by
  obtain ⟨f, oc, od, kV, doc, pm, an, ct, osl, lk, hcd, kp, hm⟩ := F.ex
  refine ⟨f, _, ps, ⟨len, fun hr hg e0 b r q => LamX.run_ofS lk hcd S hr e0 b r (len _ _ _ _ q) fun hr' => ?_⟩, hm, kp, .all (hb _ _ _ _ _ _)⟩
  obtain ⟨t, h, z⟩ := body _ _ _ _ _ _ _ _ hr' hg q
  exact ⟨t, h.nox, z⟩
end
section
variable {P : Program} {w : World} {K : PySem.W.Frag} {mg : Str → Option Value} {base : Heap} {G : Bool}
/-- a def's promise by its body, its object known -/
theorem rn_ok {x : Str} {st : Stmt} {f : Addr} {fd : FuncData} {N ps : List Str} {k : Nat} {sp : Sp} (F : L2.Fun K x x st f fd) (S : FnScope N ps (defScope st)) (len : ∀ vs H Q E, sp vs H Q E → vs.length = ps.length)
    (body : ∀ (cdv : Value) (A : Around) (outer : List Env) (s : Shared) (H : Hp) (vs : List V) (Q : VK) (E : XK), Room k (A.deeper (envOfC x (defScope st) s.heap.objs.size f cdv)) → (G = true → A.guards = some []) → sp vs H Q E →
      ∃ t, PSs (cxOf (L2.CX P w) P w K mg base N x (defScope st) f cdv A outer s H E).nox (defBody st) t ∧ t { nx := fun _ H' => Q .non H', rt := Q } (start N vs) H) : Rn P w K mg base G (k + 1) f fd ps sp := by
  obtain ⟨oc, od, kV, doc, pm, an, cdv, ct, osl, rfl, lk, hcd⟩ := F.ex
  refine ⟨len, fun hr hg e0 b r q => LamX.run_ofS lk hcd S hr e0 b r (len _ _ _ _ q) fun hr' => ?_⟩
  obtain ⟨t, h, z⟩ := body cdv _ _ _ _ _ _ _ hr' hg q
  exact ⟨t, h.nox, z⟩
theorem has_mk {h : Heap} (X : K.In h) (G : h.Ns mainGlobals mg) {x : Str} {st : Stmt} {f : Addr} {oc kV doc pm cd ct : Value} {od an : Option Addr} {osl : Array (Option Value)} (a : PySem.W.nsIn K mainGlobals x = some (some (.ref f)))
    (l : K.lookup f = some ⟨oc, od, .func (PySem.W.fnOf x x (defArgs st) (defBody st) (defScope st) .none kV doc pm an cd ct), osl⟩) (c : PySem.W.codeIn K cd x = true) (k : PySem.W.keepIn K (.ref f) = true) : Has K mg x st :=
  ⟨f, _, fun_mk (st := st) l c k, PySem.W.mg_of X G a⟩
theorem hasC_mk {h : Heap} (X : K.In h) (G : h.Ns mainGlobals mg) {x : Str} {st : Stmt} {f cd : Addr} {oc kV doc pm ct : Value} {od an : Option Addr} {osl : Array (Option Value)} (a : PySem.W.nsIn K mainGlobals x = some (some (.ref f)))
    (l : K.lookup f = some ⟨oc, od, .func (PySem.W.fnOf x x (defArgs st) (defBody st) (defScope st) .none kV doc pm an (.ref cd) ct), osl⟩) (c : PySem.W.codeIn K (.ref cd) x = true) (k : PySem.W.keepIn K (.ref f) = true) : HasC K mg x st cd :=
  ⟨f, oc, od, kV, doc, pm, an, ct, osl, l, c, k, PySem.W.mg_of X G a⟩
end
/-! ### the law's helper that keeps an error -/
/-- its text -/
def IsCaught (st : Stmt) : Prop := ∃ (j : Nat) (p1 p2 p3 p4 p5 p6 p7 p8 p9 p10 p11 p12 p13 p14 : Pos), defBody st =
  [.Assign [.Name "_law_caught_here" p1] (.Constant .none j p2) p3, .Try [.Expr (.Call (.Name "_law_ask" p4) [] [] p5) p6] [.ExceptHandler (some (.Name "AimError" p7)) (some "error") [.Assign [.Name "_law_caught_here" p8] (.Name "error" p9) p10] p11] [] [] p12, .Return (some (.Name "_law_caught_here" p13)) p14]
structure CauT (K : PySem.W.Frag) (mg : Str → Option Value) (st : Stmt) (AE : Addr) : Prop where
  has : Has K mg "_law_caught" st
  txt : IsCaught st
  sc : FnScope ["_law_ask", "_law_caught_here", "error"] ["_law_ask"] (defScope st)
  s1 : (defScope st).names.lookup ("AimError" : Str) = some .globalImplicit
  s2 : (defScope st).names.lookup ("_law_caught_here" : Str) = some .local
  s3 : (defScope st).names.lookup ("error" : Str) = some .local
  s4 : (defScope st).names.lookup ("_law_ask" : Str) = some .local
  hb : ∀ (kV doc pm : Value) (an : Option Addr) (cdv ct : Value) (us : List Value), us.length = 1 → bindArgs (PySem.W.fnOf "_law_caught" "_law_caught" (defArgs st) (defBody st) (defScope st) .none kV doc pm an cdv ct) ⟨us, []⟩ = pure ((["_law_ask"] : List Str).zip us)
  m : mg "AimError" = some (.ref AE)
section
variable {X : Cx}
theorem pe_caught {T : List (Addr × Str)} {st : Stmt} {AE c Pt : Addr} {k : Nat} {params : Arguments} {body : Expr} {scope : Scope} {t : XK → TE} {p lpos pos : Pos} (U : CauT X.K X.mg st AE) (hg : Gl X "_law_caught")
    (TB : TabB X.base X.mg c Pt) (hcode : X.env.code = .ref c) (hmT : (Pt, X.env.qual ++ "<lambda>") ∈ T) (hu : ∀ p ∈ T, p.1 = Pt → p.2 = X.env.qual ++ "<lambda>") (hr : Room (k + 2) X.A) (L : LamX.LamS X.env.scope scope) (hdef : defaultsOf params X.env = ([], []))
    (hbind : ∀ (q : Str) (cl : List (Str × Addr)) (pm cv ctv : Value), bindArgs (PySem.W.kla_fn "<lambda>" q params body scope cl pm cv ctv) ⟨[], []⟩ = pure [])
    (hbody : ∀ (A : Around) (outer : List Env) (s : Shared) (H : Hp) (E : XK) (f c' : Addr), Room k (A.deeper (LamX.lamEnv X scope s.heap.objs.size f c')) → PE (LamX.lamCx X A outer s H E scope f c') body (t E)) :
    PE X (.Call (.Name "_law_caught" p) [.Lambda params body scope lpos] [] pos) (LamX.tLam T (TTc X.K AE) t) := by
  obtain ⟨g, fd, F, hm⟩ := U.has.ex
  obtain ⟨oc, od, kV, doc, pm, an, cdv, ct, osl, e1, lk, hcd⟩ := id F.ex
  subst e1
  have hbi := F.binds (ps := ["_law_ask"]) U.hb
  obtain ⟨j, p1, p2, p3, p4, p5, p6, p7, p8, p9, p10, p11, p12, p13, p14, hbd⟩ := U.txt
  rw [hbd] at lk hbi
  exact LamX.pe_lamcall hg hm F.kp lk hcd hbi U.sc rfl (.inl U.s4) (caught_gives U.s1 U.m (by decide) U.s2 U.s3 (by decide +kernel) (by decide) (by decide) (by decide) (by decide)) TB hcode hmT hu hr L hdef hbind hbody
end
end Aim

namespace Aim
open PySem PySem.Spec PyProof.Rows L2
/-! ### what the written part says of the error classes -/
section
variable {P : Program} {K : PySem.W.Frag} {mg : Str → Option Value}
theorem aimI_mk {st : Stmt} {f D : Addr} (txt : IsInit st) {oc kV doc pm ct ccl cl : Value} {od an cdd cld : Option Addr} {osl ccs csl : Array (Option Value)} {cc cda : Addr} {vs : Array Value} {file : Str} {tf : Tok} {cdD : ClassData}
    (l : K.lookup f = some ⟨oc, od, .func (PySem.W.fnX "__init__" "AimError.__init__" (defArgs st) (defBody st) (defScope st) [("__class__", cc)] .none kV doc pm an (.ref cda) ct), osl⟩) (c : PySem.W.codeIn K (.ref cda) "AimError.__init__" = true)
    (lc : K.lookup cda = some ⟨ccl, cdd, .fields vs, ccs⟩) (e1 : vs[2]? = some (.str file tf)) (e2 : ((P.main.file : Str) == file) = true) (lcc : K.lookup cc = some ⟨cl, cld, .cell (some (.ref D)), csl⟩) (hD : PySem.W.clsIn K D = some cdD)
    (tI : PySem.W.typeIn K (.ref f) = some (.type "function")) (top : (P.main.scope.names.lookup ("super" : Str)).isSome = false) (third : PySem.W.nsIn K cStatics "thirdparty.any" = some none) : AimI P K st f D :=
  ⟨txt, ⟨oc, od, an, osl, kV, doc, pm, ct, cc, cda, ccl, cl, cdd, cld, ccs, csl, vs, file, tf, cdD, l, c, lc, e1, e2, lcc, hD⟩, tI, top, third⟩
theorem aimC_mk {f D C : Addr} {nm qn : Str} {N : Addr} {bs bm : List Value} {sn sub ab col dd k0 k1 k2 k3 k5} (l : K.lookup C = some (excClassObj nm qn C N bs bm true sn sub ab col dd k0 k1 k2 k3 k5 "ValueError.__new__")) (hbm : PySem.HandSPX.refsVE bm = true)
    (sa : PySem.W.findIn K (.ref C) "__setattr__" = some (some (.builtin "object.__setattr__"))) (exC : PySem.W.subIn K (.ref C) (.type "BaseException") = some true) (tyC : PySem.W.typeIn K (.ref C) = some (.type "type")) (kC : PySem.W.keepIn K (.ref C) = true)
    (ga : PySem.W.findIn K (.ref C) "__getattribute__" = some (some (.builtin "BaseException.__getattribute__"))) (gg : PySem.W.findIn K (.ref C) "__getattr__" = some none) (hdC : PySem.W.hasDictIn K C = true)
    (sb : PySem.W.mroIn K C (.ref D) = some true) (sup : PySem.W.ks_superIn K C D "__init__" = some (some (.builtin "ValueError.__init__"))) (ve : PySem.W.subIn K (.ref C) (.type "ValueError") = some true) (nv : PySem.W.findIn K (.ref C) "value" = some none)
    (ini : PySem.W.findIn K (.ref C) "__init__" = some (some (.ref f))) (own : PySem.W.findIn K (.ref C) "__class__" = some (some (.builtin "object.__class__"))) (get : PySem.W.specialIn K (.builtin "object.__class__") "__get__" = some (some (.builtin "getset_descriptor.__get__")))
    (tak : PySem.W.takesIn K (.builtin "object.__class__") = some true) (obj : PySem.W.mroIn K C (.type "object") = some true) : AimC K f D C :=
  { cls := ⟨_, _, _, _, _, _, _, _, _, _, _, _, _, _, _, l, hbm⟩, sa := sa, exC := exC, tyC := tyC, kC := kC, ga := ga, gg := gg, hdC := hdC, sub := sb, sup := sup, ve := ve, nv := nv, ini := ini, own := own, get := get, tak := tak, obj := obj }
end
end Aim

namespace Aim
open PySem PySem.Spec PyProof.Rows L2
open LamX (TabB)
def top (i : Nat) : Stmt := PySem.Challenge.pw_aimedpresses_k07_persons_made.main.body.getD i (.Pass ⟨0, 0, 0, 0⟩)
section
variable {P : Program} {w : World} {K : PySem.W.Frag} {mg : Str → Option Value} {base : Heap} {TT : List (Addr × Str)}
/-! ### take -/
theorem at_four {a b c d i m : Int} (i0 : 0 ≤ i) (i1 : i < 4) (ha : 0 < a ∧ a ≤ m) (hb : 0 < b ∧ b ≤ m) (hc : 0 < c ∧ c ≤ m) (hd : 0 < d ∧ d ≤ m) : ∃ z, atI [V.int a, V.int b, V.int c, V.int d] i = some (.int z) ∧ 0 < z ∧ z ≤ m := by
  have h : i = 0 ∨ i = 1 ∨ i = 2 ∨ i = 3 := by omega
  rcases h with h | h | h | h <;> subst h
  · exact ⟨a, rfl, ha⟩
  · exact ⟨b, rfl, hb⟩
  · exact ⟨c, rfl, hc⟩
  · exact ⟨d, rfl, hd⟩
theorem log2_62 {z : Int} (z0 : 0 < z) (z1 : z < 2 ^ 62) : z.natAbs.log2 < 9000 := by
  have h : z.natAbs < 2 ^ 62 := by omega
  exact Nat.lt_trans (Nat.log2_lt (by omega) |>.mpr h) (by decide)
def spTake (TT : List (Addr × Str)) : Sp := fun vs H Q _ => ∃ (p : Addr) (n : Nat) (z : Int), vs = [.ref p, .int z] ∧ H p = some (PotO n p) ∧ n < 1000000 ∧ 0 < z ∧ z < 2 ^ 62 ∧ ∀ (r : Int) (H' : Hp), 0 ≤ r → r < z → Ext TT H H' → H' p = some (PotO (n + 1) p) → Q (.int r) H'
theorem sc__law_take : FnScope ["_law_pot_here", "_law_size", "_law_turn", "_law_prime", "_law_mixed", "_law_spread", "_law_digit"] ["_law_pot_here", "_law_size"] (defScope (top 21)) := ⟨rfl, rfl, rfl, by decide +kernel, rfl, by decide +kernel, by decide +kernel⟩
theorem ok_take (F : Has K mg "_law_take" (top 21)) (T : Blt mg) : Df P w K mg base false 1 "_law_take" (spTake TT) := by
  obtain ⟨f, fd, F, hm⟩ := F.ex
  refine df_ok F hm (F.binds (fun _ _ _ _ _ _ us hl => match us, hl with | [_, _], _ => rfl)) sc__law_take (fun vs H Q E h => ?_) (fun cdv A outer s H vs Q E hr hG h => ?_)
  · obtain ⟨_, _, _, rfl, _⟩ := h
    rfl
  · obtain ⟨p, n, z, rfl, hp, hn, z0, z1, k⟩ := h
    refine ⟨_, (pss_cons (ps_if (pt_cmpR op_gt (pe_ix ix_pot (pv 0) pe_int (fun _ _ => rfl)) pe_int (nomark _)) (pss_cons (ps_set (i := 6) sc__law_take.nd rfl (Or.inl rfl) (pe_op op_mod (pe_callTy call_int1 rfl T.n_int boot_int (pa_cons (pe_ix ix_pot (pv 0) pe_int (fun _ _ => rfl)) pa_nil)) (pv 1)))
      (pss_cons (ps_asg (pe_op op_fdivW (pe_callTy call_int1 rfl T.n_int boot_int (pa_cons (pe_ix ix_pot (pv 0) pe_int (fun _ _ => rfl)) pa_nil)) (pv 1)) (pg_sub (pv 0) pe_int set_pot))
      (pss_one (ps_ret (pv 6))))) pss_nil)
      (pss_cons (ps_set (i := 2) sc__law_take.nd rfl (Or.inl rfl) (pe_op op_add (pe_ix ix_pot (pv 0) pe_int (fun _ _ => rfl)) pe_int))
      (pss_cons (ps_asg (pv 2) (pg_sub (pv 0) pe_int set_pot))
      (pss_cons (ps_set (i := 3) sc__law_take.nd rfl (Or.inl rfl) (pe_ix ix_seq (pe_lst (pa_cons pe_int (pa_cons pe_int (pa_cons pe_int (pa_cons pe_int pa_nil))))) (pe_op op_mod (pe_callTy call_int1 rfl T.n_int boot_int (pa_cons (pv 2) pa_nil)) pe_int) (fun _ _ => rfl)))
      (pss_cons (ps_set (i := 4) sc__law_take.nd rfl (Or.inl rfl) (pe_op op_mod (pe_callTy call_int1 rfl T.n_int boot_int (pa_cons (pe_op op_powW (pe_callTy call_int1 rfl T.n_int boot_int (pa_cons (pe_op op_add (pe_op op_add (pe_ix ix_pot (pv 0) pe_int (fun _ _ => rfl)) (pe_op op_mul (pe_op op_mul pe_int (pv 2)) (pv 2))) (pe_op op_mul pe_int (pv 2))) pa_nil)) pe_int) pa_nil)) (pv 3)))
      (pss_cons (ps_set (i := 5) sc__law_take.nd rfl (Or.inl rfl) (pe_op op_mod (pe_callTy call_int1 rfl T.n_int boot_int (pa_cons (pe_op op_mul (pv 4) (pe_op op_add (pe_op op_mod (pe_callTy call_int1 rfl T.n_int boot_int (pa_cons (pv 4) pa_nil)) pe_int) (pe_op op_mul pe_int (pv 2)))) pa_nil)) pe_int))
      (pss_one (ps_ret (pe_op op_mod (pe_callTy call_int1 rfl T.n_int boot_int (pa_cons (pe_op op_fdivW (pv 5) pe_int) pa_nil)) (pv 1)))))))))), ?_⟩
    refine ⟨_, rfl, _, _, _, rfl, rfl, hp, .inl ⟨rfl, fun d d0 => ?_⟩⟩
    refine ⟨_, _, rfl, rfl, _, rfl, ?_⟩
    refine ite2 (fun c => ?_) (fun c => ?_)
    · refine ⟨_, rfl, _, _, _, rfl, rfl, hp, .inl ⟨rfl, fun d2 e2 => ?_⟩⟩
      refine .inl ⟨_, rfl, _, rfl, _, _, rfl, rfl, z0, ?_⟩
      refine ⟨_, rfl, _, _, _, rfl, rfl, hp, .inl ⟨rfl, fun d3 e3 => ?_⟩⟩
      refine .inl ⟨_, rfl, _, rfl, _, _, rfl, rfl, ⟨z0, log2_62 z0 z1⟩, ?_⟩
      refine ⟨_, rfl, _, _, _, _, rfl, rfl, rfl, hp, .inl ⟨rfl, Int.ediv_nonneg e3 (Int.le_of_lt z0), n + 1, Nat.le_succ n, ?_⟩⟩
      exact ⟨_, rfl, k _ _ (Int.emod_nonneg _ (by omega)) (Int.emod_lt_of_pos _ z0) (.pot hp) upd_same⟩
    · refine ⟨_, rfl, _, _, _, rfl, rfl, hp, .inr (.inr ⟨rfl, fun t t0 t1 => ?_⟩)⟩
      refine ⟨_, _, rfl, rfl, ?_⟩
      refine ⟨_, rfl, _, rfl, _, _, _, _, rfl, rfl, rfl, hp, .inr ⟨rfl, n + 1, Nat.le_succ n, by omega, by omega, ?_⟩⟩
      refine ⟨by show 4 ≤ sizeLine; decide, fun L hL => ?_⟩
      have hp1 : upd (upd H p (PotO (n + 1) p)) L (.lst [.int 2305843009213693951, .int 2305843009213693921, .int 2305843009213693907, .int 67280421310721]) p = some (PotO (n + 1) p) := by
        rw [upd_ne (ne_of_none upd_same hL)]
        exact upd_same
      obtain ⟨pr, hpr, pr0, pr1⟩ := at_four (i := (t + 1) % 4) (a := 2305843009213693951) (b := 2305843009213693921) (c := 2305843009213693907) (d := 67280421310721) (Int.emod_nonneg _ (by decide)) (Int.emod_lt_of_pos _ (by decide)) (m := 2 ^ 61) (by decide) (by decide) (by decide) (by decide)
      refine ⟨_, rfl, .inl ⟨_, rfl, _, _, rfl, rfl, (by decide : (0 : Int) < 4), .inl ⟨L, _, _, _, rfl, rfl, SqL.of upd_same, hpr, ?_⟩⟩⟩
      refine ⟨_, rfl, _, _, _, rfl, rfl, hp1, .inr (.inl ⟨rfl, fun m m0 m1 => ?_⟩)⟩
      have tt : (t + 1) * (t + 1) ≤ 1000001 * 1000001 := Int.mul_le_mul (by omega) (by omega) (by omega) (by omega)
      have tt0 : 0 ≤ (t + 1) * (t + 1) := Int.mul_nonneg (by omega) (by omega)
      refine ⟨_, rfl, _, _, rfl, rfl, .inr ⟨by omega, by omega⟩, _, rfl, _, _, rfl, rfl, .inr ⟨by omega, by omega⟩, _, _, rfl, rfl, ?_⟩
      refine ⟨_, rfl, _, _, rfl, rfl, .inr ⟨by omega, by omega⟩, _, _, rfl, rfl, .inl ⟨_, rfl, _, _, rfl, rfl, ⟨by decide, ?_⟩, ?_⟩⟩
      · have b : Builtin.Int.intBits (m + 7368787 * (t + 1) * (t + 1) + 104729 * (t + 1)) ≤ 70 := by
          refine PySem.intBits_le_iff.mpr ?_
          have e : 7368787 * (t + 1) * (t + 1) = 7368787 * ((t + 1) * (t + 1)) := Int.mul_assoc _ _ _
          rw [e]
          generalize (t + 1) * (t + 1) = q at tt tt0
          omega
        show (Builtin.Int.intBits (m + 7368787 * (t + 1) * (t + 1) + 104729 * (t + 1)) : Int) * 3 ≤ 2 ^ 27
        omega
      refine .inl ⟨_, rfl, _, rfl, _, _, rfl, rfl, (by omega : (0 : Int) < pr), ?_⟩
      generalize hmx : (m + 7368787 * (t + 1) * (t + 1) + 104729 * (t + 1)) ^ Int.toNat 3 % pr = mx
      have mx0 : 0 ≤ mx := by rw [← hmx]; exact Int.emod_nonneg _ (by omega)
      have mx1 : mx < 2 ^ 61 := by rw [← hmx]; exact Int.lt_of_lt_of_le (Int.emod_lt_of_pos _ (by omega)) pr1
      refine ⟨_, rfl, _, rfl, .inl ⟨_, rfl, _, _, rfl, rfl, (by decide : (0 : Int) < 10009), _, rfl, _, _, rfl, rfl, .inr ⟨by omega, by omega⟩, _, _, rfl, rfl, _, _, rfl, rfl, .inl ⟨by omega, by omega⟩, ?_⟩⟩
      refine .inl ⟨_, rfl, _, _, rfl, rfl, (by decide : (0 : Int) < 2305843009213693669), ?_⟩
      refine ⟨_, rfl, _, _, rfl, rfl, ⟨by decide, by decide⟩, .inl ⟨_, rfl, _, rfl, _, _, rfl, rfl, z0, ?_⟩⟩
      exact k _ _ (Int.emod_nonneg _ (by omega)) (Int.emod_lt_of_pos _ z0) (.trans (.pot hp) (.new hL)) hp1
/-! ### of, cells, pot -/
theorem atI_of {xs : List V} {r : Int} (r0 : 0 ≤ r) (r1 : r < (xs.length : Int)) : ∃ (j : Nat) (v : V), r = (j : Int) ∧ xs[j]? = some v ∧ atI xs r = some v := by
  have h : r.toNat < xs.length := by omega
  obtain ⟨j, e⟩ : ∃ j : Nat, r = (j : Int) := ⟨r.toNat, by omega⟩
  subst e
  have h : j < xs.length := by omega
  exact ⟨j, xs[j], rfl, List.getElem?_eq_getElem h, atI_nat (List.getElem?_eq_getElem h)⟩
/-- one of a list or a tuple -/
def spOf (K : PySem.W.Frag) (TT : List (Addr × Str)) : Sp := fun vs H Q _ => ∃ (p a : Addr) (n : Nat) (xs : List V), vs = [.ref p, .ref a] ∧ H p = some (PotO n p) ∧ n < 1000000 ∧ (SqL K H a xs ∨ SqT K H a xs) ∧ 0 < xs.length ∧ xs.length ≤ 1000000 ∧
  ∀ (j : Nat) (v : V) (H' : Hp), xs[j]? = some v → Ext TT H H' → H' p = some (PotO (n + 1) p) → Q v H'
theorem sc__law_of : FnScope ["_law_pot_here", "_law_options"] ["_law_pot_here", "_law_options"] (defScope (top 22)) := ⟨rfl, rfl, rfl, by decide +kernel, rfl, by decide +kernel, by decide +kernel⟩
theorem ok_of {G : Bool} (F : Has K mg "_law_of" (top 22)) (T : Blt mg) (D__law_take : Df P w K mg base false 1 "_law_take" (spTake TT)) : Df P w K mg base G 2 "_law_of" (spOf K TT) := by
  obtain ⟨f, fd, F, hm⟩ := F.ex
  refine df_ok F hm (F.binds (fun _ _ _ _ _ _ us hl => match us, hl with | [_, _], _ => rfl)) sc__law_of (fun vs H Q E h => ?_) (fun cdv A outer s H vs Q E hr hG h => ?_)
  · obtain ⟨_, _, _, _, rfl, _⟩ := h
    rfl
  · obtain ⟨p, a, n, xs, rfl, hp, hn, hs, h0, h1, k⟩ := h
    have hG : false = true → A.guards = some [] := fun z => nomatch z
    refine ⟨_, (pss_one (ps_ret (pe_ix ix_seq (pv 1) (pe_df D__law_take hr (by first | decide | omega) (by first | exact hG | (intro z; cases z)) rfl passL (pa_cons (pv 0) (pa_cons (pe_callB call_len_seq rfl T.n_len boot_len (pa_cons (pv 1) pa_nil)) pa_nil))) (fun _ _ => rfl)))), ?_⟩
    refine ⟨_, rfl, _, rfl, _, rfl, a, xs, rfl, hs, .inl ⟨p, n, _, rfl, hp, hn, by omega, by omega, fun r H' r0 r1 e hp' => ?_⟩⟩
    obtain ⟨j, v, _, hj, ha⟩ := atI_of r0 r1
    rcases hs with hs | hs
    · exact .inl ⟨a, xs, _, _, rfl, rfl, e.sqL hs, ha, k j v H' hj e hp'⟩
    · exact .inr (.inl ⟨a, xs, _, _, rfl, rfl, e.sqT hs, ha, k j v H' hj e hp'⟩)
/-- the places of the script -/
def spCells (K : PySem.W.Frag) : Sp := fun vs H Q _ => ∃ (a : Addr) (ns : List Int) (m : Int), vs = [.ref a, .int m] ∧ SqL K H a (ns.map V.int) ∧ ns.length ≤ 63 ∧ m ≤ 60 ∧
  ∀ (l : Addr) (xs : List V), H l = none → (∀ v ∈ xs, ∃ j : Int, v = .int j ∧ 0 ≤ j ∧ j < 63) → xs.length ≤ 63 → Q (.ref l) (upd H l (.lst xs))
theorem sc__law_cells : FnScope ["_law_script", "_law_most"] ["_law_script", "_law_most"] (defScope (top 23)) := ⟨rfl, rfl, rfl, by decide +kernel, rfl, by decide +kernel, by decide +kernel⟩
theorem ok_cells {G : Bool} (F : Has K mg "_law_cells" (top 23)) (T : Blt mg) : Df P w K mg base G 1 "_law_cells" (spCells K) := by
  obtain ⟨f, fd, F, hm⟩ := F.ex
  refine df_ok F hm (F.binds (fun _ _ _ _ _ _ us hl => match us, hl with | [_, _], _ => rfl)) sc__law_cells (fun vs H Q E h => ?_) (fun cdv A outer s H vs Q E hr hG h => ?_)
  · obtain ⟨_, _, _, rfl, _⟩ := h
    rfl
  · obtain ⟨a, ns, m, rfl, hs, hn, hm, k⟩ := h
    refine ⟨_, (pss_one (ps_ret (pe_listRg rfl rfl T.n_list (prg_1 rfl T.n_range (pe_callB (call_max2 rfl) rfl T.n_max boot_max (pa_cons pe_int (pa_cons (pe_callB (call_min2 rfl) rfl T.n_min boot_min (pa_cons (pv 1) (pa_cons (pe_callB call_len_seq rfl T.n_len boot_len (pa_cons (pv 0) pa_nil)) pa_nil))) pa_nil))))))), ?_⟩
    refine ⟨_, rfl, _, rfl, a, _, rfl, .inl hs, _, _, rfl, _, _, rfl, _, rfl, ?_⟩
    rw [List.length_map]
    have b1 : (if (ns.length : Int) < m then (ns.length : Int) else m) ≤ 60 := by split <;> omega
    generalize (if (ns.length : Int) < m then (ns.length : Int) else m) = u at b1
    have b2 : (if u > 1 then u else 1) ≤ 60 ∧ 1 ≤ (if u > 1 then u else 1) := by split <;> omega
    generalize (if u > 1 then u else 1) = c at b2
    refine ⟨RgOk.of_le (by omega) (by omega) (by omega) (by omega), fun l hl => k l _ hl (fun v hv => ?_) (by rw [rgV_length]; omega)⟩
    obtain ⟨i, hi, e⟩ := List.mem_map.mp hv
    have := List.mem_range.mp hi
    exact ⟨_, e.symm, by omega, by omega⟩
/-- the pot of a place -/
def spPot (K : PySem.W.Frag) : Sp := fun vs H Q _ => ∃ (a : Addr) (ns : List Int) (j : Int), vs = [.ref a, .int j] ∧ SqL K H a (ns.map V.int) ∧ 0 ≤ j ∧ j < 63 ∧ (∀ z ∈ ns, Builtin.Int.intBits z ≤ 1048576) ∧ ns.length ≤ 63 ∧
  ∀ p : Addr, H p = none → Q (.ref p) (upd H p (PotO 0 p))
theorem sc__law_pot : FnScope ["_law_script", "_law_place", "_law_cell", "_law_digits"] ["_law_script", "_law_place"] (defScope (top 20)) := ⟨rfl, rfl, rfl, by decide +kernel, rfl, by decide +kernel, by decide +kernel⟩
theorem ok_pot {G : Bool} (F : Has K mg "_law_pot" (top 20)) (T : Blt mg) : Df P w K mg base G 1 "_law_pot" (spPot K) := by
  obtain ⟨f, fd, F, hm⟩ := F.ex
  refine df_ok F hm (F.binds (fun _ _ _ _ _ _ us hl => match us, hl with | [_, _], _ => rfl)) sc__law_pot (fun vs H Q E h => ?_) (fun cdv A outer s H vs Q E hr hG h => ?_)
  · obtain ⟨_, _, _, rfl, _⟩ := h
    rfl
  · obtain ⟨a, ns, j, rfl, hs, j0, j1, hb, hl, k⟩ := h
    refine ⟨_, (C8.pss_cut (ps_set (i := 2) sc__law_pot.nd rfl (Or.inl rfl) (pe_ifExp (pt_cmpR op_lt (pv 1) (pe_callB call_len_seq rfl T.n_len boot_len (pa_cons (pv 0) pa_nil)) (nomark _)) (pe_ix ix_seq (pv 0) (pv 1) (fun _ _ => rfl)) pe_int))
      (C8.pss_cut (ps_set (i := 3) sc__law_pot.nd rfl (Or.inl rfl) (pe_op op_mul (pe_op op_mod (pe_callTy call_int1 rfl T.n_int boot_int (pa_cons (pe_callB call_abs rfl T.n_abs boot_abs (pa_cons (pv 2) pa_nil)) pa_nil)) (pe_op op_powW (pe_op op_powW pe_int pe_int) pe_int)) (pe_callTy call_int1 rfl T.n_int boot_int (pa_cons (pe_cmpR op_ge (pe_callB call_abs rfl T.n_abs boot_abs (pa_cons (pv 2) pa_nil)) (pe_op op_powW pe_int pe_int) (nomark _)) pa_nil))))
      (pss_one (ps_ret (pe_pot (pe_lst (pa_cons (pv 3) (pa_cons (pe_op op_mod (pe_callTy call_int1 rfl T.n_int boot_int (pa_cons (pe_op op_add (pe_op op_mul (pv 2) pe_int) (pe_op op_mul pe_int (pe_op op_powW (pe_op op_add (pv 1) pe_int) pe_int))) pa_nil)) pe_int) (pa_cons pe_int pa_nil))))))))), ?_⟩
    refine ⟨fun σ' H' => ∃ c : Int, Builtin.Int.intBits c ≤ 1048576 ∧ σ' = [some (.ref a), some (.int j), some (.int c), none] ∧ H' = H, ?_, ?_⟩
    · refine ⟨_, rfl, _, rfl, a, _, rfl, .inl hs, _, _, rfl, rfl, _, rfl, ?_⟩
      rw [List.length_map]
      refine ite2 (fun c => ?_) (fun c => ?_)
      · have hj : j < ns.length := of_decide_eq_true c
        obtain ⟨i, e⟩ : ∃ i : Nat, j = (i : Int) := ⟨j.toNat, by omega⟩
        have hi : i < ns.length := by omega
        have hget : (ns.map V.int)[i]? = some (.int ns[i]) := by rw [List.getElem?_map, List.getElem?_eq_getElem hi]; rfl
        exact ⟨_, rfl, _, rfl, .inl ⟨a, _, _, _, rfl, rfl, hs, by rw [e]; exact atI_nat hget, _, hb _ (List.getElem_mem hi), rfl, rfl⟩⟩
      · exact ⟨0, by decide, rfl, rfl⟩
    · rintro σ' H' ⟨c, hc, rfl, rfl⟩
      refine ⟨fun σ' H1 => ∃ d : Int, 0 ≤ d ∧ σ' = [some (.ref a), some (.int j), some (.int c), some (.int d)] ∧ H1 = H', ?_, ?_⟩
      · refine ⟨_, rfl, _, rfl, .inl ⟨_, rfl, ?_⟩⟩
        refine ⟨_, _, rfl, rfl, ⟨by decide, by decide⟩, _, _, rfl, rfl, ⟨by decide, by decide +kernel⟩, _, _, rfl, rfl, (by show (0 : Int) < (10 ^ Int.toNat 60) ^ Int.toNat 5; decide +kernel), ?_⟩
        refine ⟨_, rfl, _, rfl, _, _, rfl, rfl, ⟨by decide, by decide⟩, _, _, rfl, rfl, .inr ⟨_, rfl, _, _, rfl, rfl, ?_, ?_⟩⟩
        · right
          split <;> omega
        · refine ⟨_, Int.mul_nonneg (Int.emod_nonneg _ (by decide +kernel)) (by split <;> omega), rfl, rfl⟩
      · rintro σ' H1 ⟨d, d0, rfl, rfl⟩
        refine ⟨_, rfl, _, rfl, _, _, rfl, rfl, .inr ⟨by omega, by omega⟩, _, rfl, _, _, rfl, rfl, _, _, rfl, rfl, ⟨by omega, ?_⟩, _, _, rfl, rfl, .inl ⟨by omega, by omega⟩, _, _, rfl, rfl, ?_⟩
        · have b : Builtin.Int.intBits (j + 1) ≤ 70 := PySem.intBits_le_iff.mpr (by omega)
          omega
        · refine .inl ⟨_, rfl, _, _, rfl, rfl, (by decide : (0 : Int) < 2305843009213693921), by show 3 ≤ sizeLine; decide, fun q hq => ?_⟩
          refine ⟨q, d, _, 0, 0, rfl, upd_same, ⟨d0, ?_, ?_, by omega, by omega⟩, ?_⟩
          · have := Int.emod_nonneg (c * 48271 + 1299709 * (j + 1) ^ Int.toNat 2) (show (2305843009213693921 : Int) ≠ 0 by decide)
            omega
          · have := Int.emod_lt_of_pos (c * 48271 + 1299709 * (j + 1) ^ Int.toNat 2) (show (0 : Int) < 2305843009213693921 by decide)
            omega
          · rw [upd_upd]
            exact k q hq
end
end Aim

namespace Aim
open PySem PySem.Spec PyProof.Rows L2 RZ
open LamX (TabB)
section
variable {P : Program} {w : World} {K : PySem.W.Frag} {mg : Str → Option Value} {base : Heap} {TT : List (Addr × Str)}
/-! ### whole numbers -/
def spIsInt (K : PySem.W.Frag) : Sp := fun vs H Q _ => ∃ (v : V) (d : PyData), vs = [v] ∧ DD K H v d ∧ Q (.bl (isI d)) H
theorem sc_is_integer : FnScope ["value"] ["value"] (defScope (top 6)) := ⟨rfl, rfl, rfl, by decide +kernel, rfl, by decide +kernel, by decide +kernel⟩
theorem ok_is_integer {G : Bool} (F : Has K mg "is_integer" (top 6)) (T : Blt mg) : Df P w K mg base G 1 "is_integer" (spIsInt K) := by
  obtain ⟨f, fd, F, hm⟩ := F.ex
  refine df_ok F hm (F.binds (fun _ _ _ _ _ _ us hl => match us, hl with | [_], _ => rfl)) sc_is_integer (fun vs H Q E h => ?_) (fun cdv A outer s H vs Q E hr hG h => ?_)
  · obtain ⟨_, _, rfl, _⟩ := h
    rfl
  · obtain ⟨v, d, rfl, hd, k⟩ := h
    refine ⟨_, (pss_one (ps_ret (pe_and (pe_callB (call_isD (T := "int")) rfl T.n_isinstance boot_isinstance (pa_cons (pv 0) (pa_cons (pe_bltn (v := .ty "int") rfl T.n_int boot_int rfl) pa_nil))) (pe_one (pe_not (pe_callB (call_isD (T := "bool")) rfl T.n_isinstance boot_isinstance (pa_cons (pv 0) (pa_cons (pe_bltn (v := .ty "bool") rfl T.n_bool boot_bool rfl) pa_nil)))))))), ?_⟩
    rw [← isI_is d] at k
    refine ⟨_, rfl, _, _, rfl, hd, _, rfl, ite2 (fun c => ?_) (fun c => ?_)⟩
    · rw [c, Bool.true_and] at k
      exact ⟨_, rfl, _, _, rfl, hd, _, rfl, k⟩
    · rw [Bool.eq_false_iff.mpr c, Bool.false_and] at k
      exact k
def spFrom (K : PySem.W.Frag) : Sp := fun vs H Q _ => ∃ (v : V) (d : PyData) (lo hi : Int), vs = [v, .int lo, .int hi] ∧ DD K H v d ∧ Q (.bl (inD d lo hi)) H
theorem sc_is_from : FnScope ["value", "low", "high"] ["value", "low", "high"] (defScope (top 7)) := ⟨rfl, rfl, rfl, by decide +kernel, rfl, by decide +kernel, by decide +kernel⟩
theorem ok_is_from {G : Bool} (F : Has K mg "is_from" (top 7)) (T : Blt mg) (D_is_integer : Df P w K mg base false 1 "is_integer" (spIsInt K)) : Df P w K mg base G 2 "is_from" (spFrom K) := by
  obtain ⟨f, fd, F, hm⟩ := F.ex
  refine df_ok F hm (F.binds (fun _ _ _ _ _ _ us hl => match us, hl with | [_, _, _], _ => rfl)) sc_is_from (fun vs H Q E h => ?_) (fun cdv A outer s H vs Q E hr hG h => ?_)
  · obtain ⟨_, _, _, _, rfl, _⟩ := h
    rfl
  · obtain ⟨v, d, lo, hi, rfl, hd, k⟩ := h
    have hG : false = true → A.guards = some [] := fun z => nomatch z
    refine ⟨_, (pss_one (ps_ret (pe_and (pe_df D_is_integer hr (by first | decide | omega) (by first | exact hG | (intro z; cases z)) rfl passL (pa_cons (pv 0) pa_nil)) (pe_one (pe_chain op_le op_le (pv 1) (pv 0) (pv 2)))))), ?_⟩
    refine ⟨_, rfl, .inl ⟨v, d, rfl, hd, _, rfl, ite2 (fun c => ?_) (fun c => ?_)⟩⟩
    · obtain ⟨i, rfl⟩ := isI_int c
      obtain rfl := hd.int_iff
      have k : Q (.bl (decide (lo ≤ i) && decide (i ≤ hi))) H := k
      refine ⟨_, rfl, _, rfl, _, _, rfl, rfl, _, rfl, ite2 (fun c1 => ?_) (fun c1 => ?_)⟩
      · rw [c1, Bool.true_and] at k
        exact ⟨_, rfl, _, _, rfl, rfl, k⟩
      · rw [Bool.eq_false_iff.mpr c1, Bool.false_and] at k
        exact k
    · rw [inD_no c] at k
      exact k
/-! ### the law's own look -/
def kindD (x : Str) (d : PyData) : Bool := if x = "bool" then isD "bool" d else if x = "int" then isI d else isD "str" d
def spIs (K : PySem.W.Frag) : Sp := fun vs H Q _ => ∃ (x : Str) (v : V) (d : PyData), vs = [.str x, v] ∧ DD K H v d ∧ Q (.bl (kindD x d)) H
theorem sc__law_is : FnScope ["_law_kind", "_law_value"] ["_law_kind", "_law_value"] (defScope (top 26)) := ⟨rfl, rfl, rfl, by decide +kernel, rfl, by decide +kernel, by decide +kernel⟩
theorem ok_is {G : Bool} (F : Has K mg "_law_is" (top 26)) (T : Blt mg) : Df P w K mg base G 1 "_law_is" (spIs K) := by
  obtain ⟨f, fd, F, hm⟩ := F.ex
  refine df_ok F hm (F.binds (fun _ _ _ _ _ _ us hl => match us, hl with | [_, _], _ => rfl)) sc__law_is (fun vs H Q E h => ?_) (fun cdv A outer s H vs Q E hr hG h => ?_)
  · obtain ⟨_, _, _, rfl, _⟩ := h
    rfl
  · obtain ⟨x, v, d, rfl, hd, k⟩ := h
    refine ⟨_, (pss_cons (ps_if (pt_cmpR op_eq (pv 0) pe_str (nomark _)) (pss_one (ps_ret (pe_callB (call_isD (T := "bool")) rfl T.n_isinstance boot_isinstance (pa_cons (pv 1) (pa_cons (pe_bltn (v := .ty "bool") rfl T.n_bool boot_bool rfl) pa_nil))))) pss_nil)
      (pss_cons (ps_if (pt_cmpR op_eq (pv 0) pe_str (nomark _)) (pss_one (ps_ret (pe_and (pe_callB (call_isD (T := "int")) rfl T.n_isinstance boot_isinstance (pa_cons (pv 1) (pa_cons (pe_bltn (v := .ty "int") rfl T.n_int boot_int rfl) pa_nil))) (pe_one (pe_not (pe_callB (call_isD (T := "bool")) rfl T.n_isinstance boot_isinstance (pa_cons (pv 1) (pa_cons (pe_bltn (v := .ty "bool") rfl T.n_bool boot_bool rfl) pa_nil)))))))) pss_nil)
      (pss_one (ps_ret (pe_callB (call_isD (T := "str")) rfl T.n_isinstance boot_isinstance (pa_cons (pv 1) (pa_cons (pe_bltn (v := .ty "str") rfl T.n_str boot_str rfl) pa_nil))))))), ?_⟩
    unfold kindD at k
    refine ⟨_, rfl, rfl, _, rfl, ite2 (fun c => ?_) (fun c => ?_)⟩
    · have c : x = "bool" := by simpa using c
      rw [if_pos c] at k
      exact ⟨_, rfl, _, _, rfl, hd, k⟩
    · have c : x ≠ "bool" := by simpa using c
      rw [if_neg c] at k
      refine ⟨_, rfl, rfl, _, rfl, ite2 (fun c => ?_) (fun c => ?_)⟩
      · have c : x = "int" := by simpa using c
        rw [if_pos c, ← isI_is d] at k
        refine ⟨_, rfl, _, _, rfl, hd, _, rfl, ite2 (fun c => ?_) (fun c => ?_)⟩
        · rw [c, Bool.true_and] at k
          exact ⟨_, rfl, _, _, rfl, hd, _, rfl, k⟩
        · rw [Bool.eq_false_iff.mpr c, Bool.false_and] at k
          exact k
      · have c : x ≠ "int" := by simpa using c
        rw [if_neg c] at k
        exact ⟨_, rfl, _, _, rfl, hd, k⟩
theorem kind_int (d : PyData) : kindD "int" d = isI d := by
  unfold kindD
  rw [if_neg (by decide +kernel), if_pos rfl]
def spWithin (K : PySem.W.Frag) : Sp := spFrom K
theorem sc__law_within : FnScope ["_law_value", "_law_least", "_law_most"] ["_law_value", "_law_least", "_law_most"] (defScope (top 30)) := ⟨rfl, rfl, rfl, by decide +kernel, rfl, by decide +kernel, by decide +kernel⟩
theorem ok_within {G : Bool} (F : Has K mg "_law_within" (top 30)) (T : Blt mg) (D__law_is : Df P w K mg base false 1 "_law_is" (spIs K)) : Df P w K mg base G 2 "_law_within" (spWithin K) := by
  obtain ⟨f, fd, F, hm⟩ := F.ex
  refine df_ok F hm (F.binds (fun _ _ _ _ _ _ us hl => match us, hl with | [_, _, _], _ => rfl)) sc__law_within (fun vs H Q E h => ?_) (fun cdv A outer s H vs Q E hr hG h => ?_)
  · obtain ⟨_, _, _, _, rfl, _⟩ := h
    rfl
  · obtain ⟨v, d, lo, hi, rfl, hd, k⟩ := h
    have hG : false = true → A.guards = some [] := fun z => nomatch z
    refine ⟨_, (pss_one (ps_ret (pe_and (pe_df D__law_is hr (by first | decide | omega) (by first | exact hG | (intro z; cases z)) rfl passL (pa_cons pe_str (pa_cons (pv 0) pa_nil))) (pe_one (pe_chain op_le op_le (pv 1) (pv 0) (pv 2)))))), ?_⟩
    refine ⟨_, rfl, .inl ⟨_, v, d, rfl, hd, _, rfl, ite2 (fun c => ?_) (fun c => ?_)⟩⟩
    · rw [kind_int] at c
      obtain ⟨i, rfl⟩ := isI_int c
      obtain rfl := hd.int_iff
      have k : Q (.bl (decide (lo ≤ i) && decide (i ≤ hi))) H := k
      refine ⟨_, rfl, _, rfl, _, _, rfl, rfl, _, rfl, ite2 (fun c1 => ?_) (fun c1 => ?_)⟩
      · rw [c1, Bool.true_and] at k
        exact ⟨_, rfl, _, _, rfl, rfl, k⟩
      · rw [Bool.eq_false_iff.mpr c1, Bool.false_and] at k
        exact k
    · rw [kind_int] at c
      rw [inD_no c] at k
      exact k
end
end Aim

namespace Aim
open PySem PySem.Spec PyProof.Rows L2 RZ
open LamX (TabB)
section
variable {P : Program} {w : World} {K : PySem.W.Frag} {mg : Str → Option Value} {base : Heap} {TT : List (Addr × Str)}
theorem all_true (n : Nat) : (List.replicate n true).all id = true := by
  rw [List.all_eq_true]
  intro b hb
  exact (List.eq_of_mem_replicate hb)
/-- one and other, the same data: they are the same to the law's look -/
def spSame (K : PySem.W.Frag) (n : Nat) : Sp := fun vs H Q _ => ∃ (v u : V) (d : PyData), vs = [v, u] ∧ DD K H v d ∧ DD K H u d ∧ Tree n d ∧ ∀ H', Grow H H' → Q (.bl true) H'
theorem sc__law_same : FnScope ["_law_one", "_law_other", "_law_kind", "_law_both", "_law_lists", "_law_here", "_law_there"] ["_law_one", "_law_other"] (defScope (top 25)) := ⟨rfl, rfl, rfl, by decide +kernel, rfl, by decide +kernel, by decide +kernel⟩
theorem same_step {G : Bool} {n : Nat} {sp0 : Sp} (F : Has K mg "_law_same" (top 25)) (T : Blt mg) (D__law_is : Df P w K mg base false 1 "_law_is" (spIs K)) (D__law_same : Df P w K mg base G (n + 1) "_law_same" sp0)
    (hc : ∀ d, Tree n d → ∀ ds, (d = .tuple ds ∨ d = .list ds) → ∀ x ∈ ds, ∀ (v u : V) (H : Hp) (Q : VK) (E : XK), DD K H v x → DD K H u x → (∀ H', Grow H H' → Q (.bl true) H') → sp0 [v, u] H Q E) : Df P w K mg base G (n + 2) "_law_same" (spSame K n) := by
  obtain ⟨f, fd, F, hm⟩ := F.ex
  refine df_ok F hm (F.binds (fun _ _ _ _ _ _ us hl => match us, hl with | [_, _], _ => rfl)) sc__law_same (fun vs H Q E h => ?_) (fun cdv A outer s H vs Q E hr hG h => ?_)
  · obtain ⟨_, _, _, rfl, _⟩ := h
    rfl
  · obtain ⟨v, u, d, rfl, hv, hu, ht, k⟩ := h
    refine ⟨_, (pss_cons (ps_if (PW.pt (pw_or (pt_val (pe_callB call_isTL rfl T.n_isinstance boot_isinstance (pa_cons (pv 0) (pa_cons (pe_tup (pa_cons (pe_bltn (v := .ty "tuple") rfl T.n_tuple boot_tuple rfl) (pa_cons (pe_bltn (v := .ty "list") rfl T.n_list boot_list rfl) pa_nil))) pa_nil)))) (pw_or1 (pt_val (pe_callB call_isTL rfl T.n_isinstance boot_isinstance (pa_cons (pv 1) (pa_cons (pe_tup (pa_cons (pe_bltn (v := .ty "tuple") rfl T.n_tuple boot_tuple rfl) (pa_cons (pe_bltn (v := .ty "list") rfl T.n_list boot_list rfl) pa_nil))) pa_nil))))))) (pss_cons (ps_set (i := 3) sc__law_same.nd rfl (Or.inl rfl) (pe_and (pe_callB (call_isD (T := "tuple")) rfl T.n_isinstance boot_isinstance (pa_cons (pv 0) (pa_cons (pe_bltn (v := .ty "tuple") rfl T.n_tuple boot_tuple rfl) pa_nil))) (pe_one (pe_callB (call_isD (T := "tuple")) rfl T.n_isinstance boot_isinstance (pa_cons (pv 1) (pa_cons (pe_bltn (v := .ty "tuple") rfl T.n_tuple boot_tuple rfl) pa_nil))))))
      (pss_cons (ps_set (i := 4) sc__law_same.nd rfl (Or.inl rfl) (pe_and (pe_callB (call_isD (T := "list")) rfl T.n_isinstance boot_isinstance (pa_cons (pv 0) (pa_cons (pe_bltn (v := .ty "list") rfl T.n_list boot_list rfl) pa_nil))) (pe_one (pe_callB (call_isD (T := "list")) rfl T.n_isinstance boot_isinstance (pa_cons (pv 1) (pa_cons (pe_bltn (v := .ty "list") rfl T.n_list boot_list rfl) pa_nil))))))
      (pss_cons (ps_if (PW.pt (pw_or (PW.pt (pw_and (pt_not (pt_val (pv 3))) (pw_and1 (pt_not (pt_val (pv 4)))))) (pw_or1 (pt_cmpR op_ne (pe_callB call_len_seq rfl T.n_len boot_len (pa_cons (pv 0) pa_nil)) (pe_callB call_len_seq rfl T.n_len boot_len (pa_cons (pv 1) pa_nil)) (nomark _))))) (pss_one (ps_ret pe_bl)) pss_nil)
      (pss_one (ps_ret (pe_callB (cr_all rfl) rfl T.n_all boot_all (pa_cons (pe_lc (own := [("_law_here", 5), ("_law_there", 6)]) rfl sc__law_same.nd (pi_zipA rfl T.n_zip (pa_cons (pv 0) (pa_cons (pv 1) pa_nil))) (blkOk_by rfl) (fun _ _ _ _ _ => (show PG _ _ (gTup K 2 (gCons (gName 5) (gCons (gName 6) gNil))) from pg_tup (n := 2) rfl (pgs_cons (pg_name (i := 5) sc__law_same.nd rfl (Or.inl rfl) (Or.inr rfl)) (pgs_cons (pg_name (i := 6) sc__law_same.nd rfl (Or.inl rfl) (Or.inr rfl)) pgs_nil)))) (fun _ _ _ _ _ => pts_nil) (fun _ _ _ _ _ => (pe_df D__law_same hr (by first | decide | omega) (by first | exact hG | (intro z; cases z)) rfl passL (pa_cons (pv 5) (pa_cons (pv 6) pa_nil))))) pa_nil))))))) pss_nil)
      (pss_cons (ps_for PassesOwn.never rfl (pi_tup (pe_tup (pa_cons pe_str (pa_cons pe_str (pa_cons pe_str pa_nil))))) (pg_name (i := 2) sc__law_same.nd rfl (Or.inl rfl) (Or.inl rfl)) (pss_one (ps_if (pt_cmpR op_ne (pe_df D__law_is hr (by first | decide | omega) (by first | exact hG | (intro z; cases z)) rfl passL (pa_cons (pv 2) (pa_cons (pv 0) pa_nil))) (pe_df D__law_is hr (by first | decide | omega) (by first | exact hG | (intro z; cases z)) rfl passL (pa_cons (pv 2) (pa_cons (pv 1) pa_nil))) (nomark _)) (pss_one (ps_ret pe_bl)) pss_nil)))
      (pss_one (ps_ret (pe_cmpR (op_eqDD hr.units) (pv 0) (pv 1) (nomark _)))))), ?_⟩
    refine ⟨_, rfl, by show 2 ≤ sizeLine; decide, fun p hp => ?_⟩
    have e1 : Grow H (upd H p (.tup [.ty "tuple", .ty "list"])) := .new hp
    have hv1 := hv.grow e1
    have hu1 := hu.grow e1
    refine ⟨_, _, _, rfl, upd_same, hv1, _, rfl, ?_⟩
    by_cases hf : flatD d = true
    · -- flat data
      obtain ⟨f1, f2⟩ := flat_no hf
      rw [f1, f2]
      refine iteF ⟨_, rfl, by show 2 ≤ sizeLine; decide, fun q hq => ?_⟩
      have e2 := e1.trans (.new (o := .tup [.ty "tuple", .ty "list"]) hq)
      refine ⟨_, _, _, rfl, upd_same, hu.grow e2, _, rfl, ?_⟩
      rw [f1, f2]
      refine iteF ⟨by show 3 ≤ sizeLine; decide, fun r hr3 => ?_⟩
      have e3 := e2.trans (.new (o := .tup [.str "bool", .str "int", .str "str"]) hr3)
      refine ⟨r, rfl, ⟨_, .inl (.inl upd_same)⟩, for_it (walk_tup (xs := [.str "bool", .str "int", .str "str"])) (fun i σ H' => ∃ z, σ = [some v, some u, z, none, none, none, none] ∧ Grow H H' ∧ H' r = some (.tup [.str "bool", .str "int", .str "str"])) ⟨none, rfl, e3, upd_same⟩ (fun i σ H' _ ⟨_, _, _, h⟩ => .inl (.inl h)) ?_ ?_⟩
      · rintro i x σ H3 H4 hi ⟨z, rfl, e4, h4⟩ ⟨rfl, hx⟩
        obtain ⟨y, rfl⟩ : ∃ y, x = V.str y := by
          match i, hx with
          | 0, hx => exact ⟨_, (Option.some.inj hx).symm⟩
          | 1, hx => exact ⟨_, (Option.some.inj hx).symm⟩
          | 2, hx => exact ⟨_, (Option.some.inj hx).symm⟩
          | i + 3, hx => cases hx
        refine ⟨_, rfl, _, rfl, .inl ⟨y, v, d, rfl, hv.grow e4, _, rfl, _, rfl, .inl ⟨y, u, d, rfl, hu.grow e4, rfl, _, rfl, ?_⟩⟩⟩
        rw [show (!decide (V.bl (kindD y d) = V.bl (kindD y d))) = false by simp]
        exact iteF ⟨_, rfl, e4, h4⟩
      · rintro σ H3 ⟨z, rfl, e4, h4⟩
        refine ⟨_, rfl, _, rfl, d, d, hv.grow e4, hu.grow e4, flat_shaped hf, flat_shaped hf, ?_⟩
        rw [flat_eqv hf]
        exact k _ e4
    · cases hv with
      | tup hs hxs =>
        rename_i a xs ds
        obtain ⟨b, ys, ds2, rfl, e2, hs2, hys⟩ := hu.isTuple rfl
        cases e2
        have hz : xs.length ≤ 1000 := by
          rw [hxs.length]
          cases ht with
          | leaf h => cases h
          | tup _ l => exact l
        have hl : xs.length = ys.length := by rw [hxs.length, hys.length]
        have hx0 := hs
        have hy0 := hs2
        have hx := e1.sqT hs
        have hy := e1.sqT hs2
        refine iteT (iteT ?_)
        refine ⟨_, rfl, _, _, rfl, hv1, _, rfl, iteT ⟨_, rfl, _, _, rfl, hu1, ?_⟩⟩
        refine ⟨_, rfl, _, _, rfl, hv1, _, rfl, iteF ?_⟩
        refine ⟨_, rfl, _, rfl, iteF ?_⟩
        refine ⟨_, rfl, a, xs, rfl, .inr hx, _, rfl, b, ys, rfl, .inr hy, rfl, _, rfl, ?_⟩
        rw [show (!decide (V.int (xs.length : Nat) = V.int (ys.length : Nat))) = false by rw [hl]; simp]
        refine iteF ?_
        refine ⟨_, rfl, _, rfl, a, b, xs, ys, rfl, .inr ⟨hx, hy, fun D hD => ?_⟩⟩
        refine lc_it (walk_zipT (n := xs.length) rfl hl) (fun i H' => Grow H H' ∧ H' D = some (.lst ((List.replicate i true).map V.bl))) ⟨.trans e1 (.new hD), upd_same⟩ (fun i H' _ p => ⟨p.1.sqT hx0, p.1.sqT hy0⟩) ?_ ?_
        · rintro i y H3 H4 hi ⟨e3, h3⟩ ⟨U, x, z, rfl, hU, rfl, gx, gy⟩
          refine ⟨U, _, rfl, .inl (.inl upd_same), rfl, _, _, rfl, _, _, rfl, rfl, rfl, ?_⟩
          obtain ⟨d1, g1, dx⟩ := hxs.get gx
          obtain ⟨d2, g2, dy⟩ := hys.get gy
          rw [g1] at g2
          cases g2
          have eU : Grow H (upd H3 U (.tup [x, z])) := e3.trans (.new hU)
          refine ⟨_, rfl, _, rfl, .inl (hc _ ht _ (.inl rfl) d1 (List.mem_of_getElem? g1) _ _ _ _ _ (dx.grow eU) (dy.grow eU) fun H5 e5 => ?_)⟩
          have e6 := eU.trans e5
          have h5 : H5 D = some (.lst ((List.replicate i true).map V.bl)) := e5.lst (by rw [upd_ne (ne_of_none h3 hU)]; exact h3)
          refine ⟨_, h5, ?_, e6.put (upd_none hD), ?_⟩
          · rw [List.length_map, List.length_replicate]
            exact Nat.lt_of_lt_of_le (Nat.lt_of_lt_of_le hi hz) (by decide)
          · rw [upd_same, List.replicate_succ', List.map_append]
            rfl
        · rintro H3 ⟨e3, h3⟩
          refine ⟨D, _, rfl, .inl (.inl h3), ?_⟩
          rw [all_true]
          exact k _ e3
      | lst hs hxs =>
        rename_i a xs ds
        obtain ⟨b, ys, ds2, rfl, e2, hs2, hys⟩ := hu.isList rfl
        cases e2
        have hz : xs.length ≤ 1000 := by
          rw [hxs.length]
          cases ht with
          | leaf h => cases h
          | lst _ l => exact l
        have hl : xs.length = ys.length := by rw [hxs.length, hys.length]
        have hx0 := hs
        have hy0 := hs2
        have hx := e1.sqL hs
        have hy := e1.sqL hs2
        refine iteT (iteT ?_)
        refine ⟨_, rfl, _, _, rfl, hv1, _, rfl, iteF ?_⟩
        refine ⟨_, rfl, _, _, rfl, hv1, _, rfl, iteT ⟨_, rfl, _, _, rfl, hu1, ?_⟩⟩
        refine ⟨_, rfl, _, rfl, iteT ⟨_, rfl, _, rfl, iteF ?_⟩⟩
        refine ⟨_, rfl, a, xs, rfl, .inl hx, _, rfl, b, ys, rfl, .inl hy, rfl, _, rfl, ?_⟩
        rw [show (!decide (V.int (xs.length : Nat) = V.int (ys.length : Nat))) = false by rw [hl]; simp]
        refine iteF ?_
        refine ⟨_, rfl, _, rfl, a, b, xs, ys, rfl, .inl ⟨hx, hy, fun D hD => ?_⟩⟩
        refine lc_it (walk_zip (n := xs.length) (by omega)) (fun i H' => Grow H H' ∧ H' D = some (.lst ((List.replicate i true).map V.bl))) ⟨.trans e1 (.new hD), upd_same⟩ (fun i H' _ p => ⟨p.1.sqL hx0, p.1.sqL hy0⟩) ?_ ?_
        · rintro i y H3 H4 hi ⟨e3, h3⟩ ⟨U, x, z, rfl, hU, rfl, gx, gy⟩
          refine ⟨U, _, rfl, .inl (.inl upd_same), rfl, _, _, rfl, _, _, rfl, rfl, rfl, ?_⟩
          obtain ⟨d1, g1, dx⟩ := hxs.get gx
          obtain ⟨d2, g2, dy⟩ := hys.get gy
          rw [g1] at g2
          cases g2
          have eU : Grow H (upd H3 U (.tup [x, z])) := e3.trans (.new hU)
          refine ⟨_, rfl, _, rfl, .inl (hc _ ht _ (.inr rfl) d1 (List.mem_of_getElem? g1) _ _ _ _ _ (dx.grow eU) (dy.grow eU) fun H5 e5 => ?_)⟩
          have e6 := eU.trans e5
          have h5 : H5 D = some (.lst ((List.replicate i true).map V.bl)) := e5.lst (by rw [upd_ne (ne_of_none h3 hU)]; exact h3)
          refine ⟨_, h5, ?_, e6.put (upd_none hD), ?_⟩
          · rw [List.length_map, List.length_replicate]
            exact Nat.lt_of_lt_of_le (Nat.lt_of_lt_of_le hi hz) (by decide)
          · rw [upd_same, List.replicate_succ', List.map_append]
            rfl
        · rintro H3 ⟨e3, h3⟩
          refine ⟨D, _, rfl, .inl (.inl h3), ?_⟩
          rw [all_true]
          exact k _ e3
      | dct h1 h2 h3 =>
        cases ht with
        | leaf h => cases h
      | str x =>
        cases ht with
        | leaf h => exact absurd h hf
      | _ => exact absurd rfl hf
theorem Df.never {G : Bool} {k : Nat} {x : Str} {st : Stmt} {ps : List Str} (F : Has K mg x st) (hb : ∀ f fd, L2.Fun K x x st f fd → L2.Binds K fd ps []) : Df P w K mg base G k x fun _ _ _ _ => False := by
  obtain ⟨f, fd, F, hm⟩ := F.ex
  exact ⟨f, fd, ps, ⟨fun _ _ _ _ h => h.elim, fun _ _ _ _ _ h => h.elim⟩, hm, F.kp, hb f fd F⟩
theorem ok_same {G : Bool} (F : Has K mg "_law_same" (top 25)) (T : Blt mg) (D__law_is : Df P w K mg base false 1 "_law_is" (spIs K)) : ∀ n : Nat, Df P w K mg base G (n + 2) "_law_same" (spSame K n)
  | 0 => same_step F T D__law_is (.never (ps := ["_law_one", "_law_other"]) F fun f fd F => F.binds (fun _ _ _ _ _ _ us hl => match us, hl with | [_, _], _ => rfl)) fun d ht ds e => by
    rcases e with rfl | rfl
    · cases ht with
      | leaf h => cases h
    · cases ht with
      | leaf h => cases h
  | n + 1 => same_step F T D__law_is (ok_same F T D__law_is n) fun d ht ds e x hx v u H Q E hv hu k => by
    refine ⟨v, u, x, rfl, hv, hu, ?_, k⟩
    rcases e with rfl | rfl
    · cases ht with
      | leaf h => cases h
      | tup h _ => exact h x hx
    · cases ht with
      | leaf h => cases h
      | lst h _ => exact h x hx
end
end Aim

namespace Aim
open PySem PySem.Spec PyProof.Rows L2 RZ
open LamX (TabB)
section
variable {P : Program} {w : World} {K : PySem.W.Frag} {mg : Str → Option Value} {base : Heap} {TT : List (Addr × Str)}
/-! ### drawn odd values and numbers -/
def oddL : List PyData := [.none, .int (-1), .int 10, .int (10 ^ Int.toNat 40), .str "", .str "A", .str "a b", .str "abcdefghi", .str "a1", .tuple [.none], .tuple [.tuple []], .list [], .list [.str "a"], .dict [], .dict [(.str "a", .int 1)]]
theorem odd_good : ∀ d ∈ oddL, Good d := by
  have y : oddL.all goodB = true := by decide +kernel
  exact List.all_eq_true.mp y
/-- a drawn value of the pot at p: data that is known to show well; c draws at most -/
def spDraw (K : PySem.W.Frag) (TT : List (Addr × Str)) (c : Nat) (Ok : PyData → Prop) : Nat → Addr → Hp → VK → Prop := fun n p H Q => ∀ (v : V) (d : PyData) (m : Nat) (H' : Hp), DD K H' v d → Ok d → Ext TT H H' → H' p = some (PotO m p) → m ≤ n + c → Q v H'
def spOdd (K : PySem.W.Frag) (TT : List (Addr × Str)) : Sp := fun vs H Q _ => ∃ (p : Addr) (n : Nat), vs = [.ref p] ∧ H p = some (PotO n p) ∧ n < 900000 ∧ spDraw K TT 1 (· ∈ oddL) n p H Q
theorem sc__law_odd : FnScope ["_law_pot_here", "_law_some"] ["_law_pot_here"] (defScope (top 27)) := ⟨rfl, rfl, rfl, by decide +kernel, rfl, by decide +kernel, by decide +kernel⟩
theorem ok_odd {G : Bool} (F : Has K mg "_law_odd" (top 27)) (T : Blt mg) (D__law_of : Df P w K mg base false 2 "_law_of" (spOf K TT)) : Df P w K mg base G 3 "_law_odd" (spOdd K TT) := by
  obtain ⟨f, fd, F, hm⟩ := F.ex
  refine df_ok F hm (F.binds (fun _ _ _ _ _ _ us hl => match us, hl with | [_], _ => rfl)) sc__law_odd (fun vs H Q E h => ?_) (fun cdv A outer s H vs Q E hr hG h => ?_)
  · obtain ⟨_, _, rfl, _⟩ := h
    rfl
  · obtain ⟨p, n, rfl, hp, hn, k⟩ := h
    refine ⟨_, (pss_cons (ps_set (i := 1) sc__law_odd.nd rfl (Or.inl rfl) (pe_lst (pa_cons pe_non (pa_cons (pe_un un_neg pe_int) (pa_cons pe_int (pa_cons (pe_op op_powW pe_int pe_int) (pa_cons pe_str (pa_cons pe_str (pa_cons pe_str (pa_cons pe_str (pa_cons pe_str (pa_cons (pe_tup (pa_cons pe_non pa_nil)) (pa_cons (pe_tup (pa_cons (pe_tup pa_nil) pa_nil)) (pa_cons (pe_lst pa_nil) (pa_cons (pe_lst (pa_cons pe_str pa_nil)) (pa_cons pe_dnewK (pa_cons (pe_disp (pps_cons pe_str pe_int pps_nil) rfl rfl (by simp) (by decide)) pa_nil)))))))))))))))))
      (pss_one (ps_ret (pe_df D__law_of hr (by first | decide | omega) (by first | exact hG | (intro z; cases z)) rfl passL (pa_cons (pv 0) (pa_cons (pv 1) pa_nil)))))), ?_⟩
    refine ⟨_, rfl, _, _, rfl, rfl, ⟨by decide, by decide +kernel⟩, ?_⟩
    refine ⟨by show 1 ≤ sizeLine; decide, fun p1 h1 => ⟨by show 0 ≤ sizeLine; decide, fun p2 h2 => ⟨by show 1 ≤ sizeLine; decide, fun p3 h3 => ⟨by show 0 ≤ sizeLine; decide, fun p4 h4 => ⟨by show 1 ≤ sizeLine; decide, fun p5 h5 => fun p6 h6 p7 h7 => ⟨upd_same, [(.inr "a", .int 1)], rfl, by decide, ?_⟩⟩⟩⟩⟩⟩
    rw [upd_upd, show mergeK [] [(.inr "a", .int 1)] = [(.inr "a", .int 1)] from rfl]
    refine ⟨by show 15 ≤ sizeLine; decide, fun L hL => ?_⟩
    have g1 := Grow.new (o := .tup [.non]) h1
    have g2 := Grow.new (o := .tup []) h2
    have g3 := Grow.new (o := .tup [.ref p2]) h3
    have g4 := Grow.new (o := .lst []) h4
    have g5 := Grow.new (o := .lst [.str "a"]) h5
    have g6 := Grow.new (o := .dK []) h6
    have g7 := Grow.new (o := .dK [(.inr "a", .int 1)]) h7
    have g8 := Grow.new (o := .lst [.non, .int (-1), .int 10, .int (10 ^ Int.toNat 40), .str "", .str "A", .str "a b", .str "abcdefghi", .str "a1", .ref p1, .ref p3, .ref p4, .ref p5, .ref p6, .ref p7]) hL
    have f7 := g8
    have f6 := g7.trans f7
    have f5 := g6.trans f6
    have f4 := g5.trans f5
    have f3 := g4.trans f4
    have f2 := g3.trans f3
    have f1 := g2.trans f2
    have f0 := g1.trans f1
    refine ⟨_, rfl, _, rfl, .inl ⟨p, L, n, _, rfl, f0 _ _ hp, by omega, .inl (.inl (.inl upd_same)), (by show 0 < _ + 1; omega), (by show 15 ≤ 1000000; decide), fun j v H' hj e hp' => ?_⟩⟩
    have dd : DDs K _ _ oddL := .cons .non (.cons (.int _) (.cons (.int _) (.cons (.int _) (.cons (.str _) (.cons (.str _) (.cons (.str _) (.cons (.str _) (.cons (.str _) (.cons (.tupOf (f1 _ _ upd_same) (.cons .non .nil))
      (.cons (.tupOf (f3 _ _ upd_same) (.cons (.tup0 (f2 _ _ upd_same)) .nil)) (.cons (.lst0 (f4 _ _ upd_same)) (.cons (.lstOf (f5 _ _ upd_same) (.cons (.str _) .nil)) (.cons (.dct (f6 _ _ upd_same) rfl .nil) (.cons (.dct (f7 _ _ upd_same) rfl (.cons (.int _) .nil)) .nil))))))))))))))
    obtain ⟨d, hd, dv⟩ := dd.get hj
    exact k v d _ H' (dv.mono e) (List.mem_of_getElem? hd) (f0.ext.trans e) hp' (Nat.le_refl _)
/-- a drawn number from lo to hi, mostly -/
def spNumber (K : PySem.W.Frag) (TT : List (Addr × Str)) : Sp := fun vs H Q _ => ∃ (p : Addr) (n : Nat) (lo hi : Int), vs = [.ref p, .int lo, .int hi] ∧ H p = some (PotO n p) ∧ n < 800000 ∧ 0 ≤ lo ∧ lo ≤ hi ∧ hi ≤ 9 ∧ spDraw K TT 3 Good n p H Q
theorem sc__law_number : FnScope ["_law_pot_here", "_law_least", "_law_most"] ["_law_pot_here", "_law_least", "_law_most"] (defScope (top 28)) := ⟨rfl, rfl, rfl, by decide +kernel, rfl, by decide +kernel, by decide +kernel⟩
theorem ok_number {G : Bool} (F : Has K mg "_law_number" (top 28)) (T : Blt mg) (D__law_take : Df P w K mg base false 1 "_law_take" (spTake TT)) (D__law_of : Df P w K mg base false 2 "_law_of" (spOf K TT)) (D__law_odd : Df P w K mg base false 3 "_law_odd" (spOdd K TT)) : Df P w K mg base G 4 "_law_number" (spNumber K TT) := by
  obtain ⟨f, fd, F, hm⟩ := F.ex
  refine df_ok F hm (F.binds (fun _ _ _ _ _ _ us hl => match us, hl with | [_, _, _], _ => rfl)) sc__law_number (fun vs H Q E h => ?_) (fun cdv A outer s H vs Q E hr hG h => ?_)
  · obtain ⟨_, _, _, _, rfl, _⟩ := h
    rfl
  · obtain ⟨p, n, lo, hi, rfl, hp, hn, l0, l1, l2, k⟩ := h
    refine ⟨_, (pss_cons (ps_if (pt_cmpR op_lt (pe_df D__law_take hr (by first | decide | omega) (by first | exact hG | (intro z; cases z)) rfl passL (pa_cons (pv 0) (pa_cons pe_int pa_nil))) pe_int (nomark _)) (pss_one (ps_ret (pe_op op_add (pv 1) (pe_df D__law_take hr (by first | decide | omega) (by first | exact hG | (intro z; cases z)) rfl passL (pa_cons (pv 0) (pa_cons (pe_op op_sub (pe_op op_add (pv 2) pe_int) (pv 1)) pa_nil)))))) pss_nil)
      (pss_one (ps_ret (pe_df D__law_of hr (by first | decide | omega) (by first | exact hG | (intro z; cases z)) rfl passL (pa_cons (pv 0) (pa_cons (pe_lst (pa_cons (pe_op op_sub (pv 1) pe_int) (pa_cons (pe_op op_add (pv 2) pe_int) (pa_cons pe_bl (pa_cons pe_bl (pa_cons pe_non (pa_cons pe_str (pa_cons (pe_op op_powW pe_int pe_int) (pa_cons (pe_df D__law_odd hr (by first | decide | omega) (by first | exact hG | (intro z; cases z)) rfl passL (pa_cons (pv 0) pa_nil)) pa_nil))))))))) pa_nil)))))), ?_⟩
    refine ⟨_, rfl, .inl ⟨p, n, 6, rfl, hp, by omega, by decide, by decide, fun r H1 r0 r1 e1 hp1 => ?_⟩⟩
    refine ⟨_, _, rfl, rfl, _, rfl, ite2 (fun c => ?_) (fun c => ?_)⟩
    · refine ⟨_, rfl, _, rfl, _, rfl, _, _, rfl, rfl, _, rfl, _, _, rfl, rfl, ?_⟩
      refine .inl ⟨p, n + 1, _, rfl, hp1, by omega, by omega, by omega, fun z H2 z0 z1 e2 hp2 => ?_⟩
      refine ⟨_, _, rfl, rfl, k _ _ _ H2 (.int _) (good_small (by omega) (by omega)) (e1.trans e2) hp2 (by omega)⟩
    · refine ⟨_, rfl, _, rfl, _, _, rfl, rfl, _, rfl, _, _, rfl, rfl, ?_⟩
      refine ⟨_, _, rfl, rfl, ⟨by decide, by decide +kernel⟩, _, rfl, .inl ⟨p, n + 1, rfl, hp1, by omega, fun u d m H2 du gd e2 hp2 hm => ⟨by show 8 ≤ sizeLine; decide, fun L hL => ?_⟩⟩⟩
      have g := Grow.new (o := .lst [.int (lo - 1), .int (hi + 1), .bl true, .bl false, .non, .str "1", .int (10 ^ Int.toNat 40), u]) hL
      refine .inl ⟨p, L, m, _, rfl, g _ _ hp2, by omega, .inl (.inl (.inl upd_same)), (by show 0 < _ + 1; omega), (by show 8 ≤ 1000000; decide), fun j v H3 hj e3 hp3 => ?_⟩
      have dd : DDs K _ _ [.int (lo - 1), .int (hi + 1), .bool true, .bool false, .none, .str "1", .int (10 ^ Int.toNat 40), d] := .cons (.int _) (.cons (.int _) (.cons (.bl _) (.cons (.bl _) (.cons .non (.cons (.str _) (.cons (.int _) (.cons (du.mono (g.ext (TT := TT))) .nil)))))))
      obtain ⟨d2, hd, dv⟩ := dd.get hj
      have gd2 : Good d2 := by
        have hm := List.mem_of_getElem? hd
        simp only [List.mem_cons, List.not_mem_nil, or_false] at hm
        rcases hm with rfl | rfl | rfl | rfl | rfl | rfl | rfl | rfl
        · exact good_small (by omega) (by omega)
        · exact good_small (by omega) (by omega)
        · exact (by decide +kernel : goodB (.bool true) = true)
        · exact (by decide +kernel : goodB (.bool false) = true)
        · exact (by decide +kernel : goodB .none = true)
        · exact (by decide +kernel : goodB (.str "1") = true)
        · exact (by decide +kernel : goodB (.int (10 ^ Int.toNat 40)) = true)
        · exact odd_good _ gd
      exact k v d2 _ H3 (dv.mono e3) gd2 (((e1.trans e2).trans (g.ext)).trans e3) hp3 (by omega)
end
end Aim

namespace Aim
open PySem PySem.Spec PyProof.Rows L2 RZ
open LamX (TabB)
section
variable {P : Program} {w : World} {K : PySem.W.Frag} {mg : Str → Option Value} {base : Heap} {TT : List (Addr × Str)}
/-! ### what Person is asked with, and what is wrong with it -/
def intD : PyData → Int
  | .int i => i
  | _ => 0
/-- the first of three that is wrong -/
def wrongD (e l h : PyData) : Option PyData := if inD e 0 6 = false then some e else if noneD l = false ∧ inD l (intD e) 6 = false then some l else if inD h 0 6 = true then none else some h
def spGiven (K : PySem.W.Frag) (TT : List (Addr × Str)) : Sp := fun vs H Q _ => ∃ (p : Addr) (n : Nat), vs = [.ref p] ∧ H p = some (PotO n p) ∧ n < 700000 ∧
  ∀ (U : Addr) (a b c e : V) (da db dc de : PyData) (m : Nat) (H' : Hp), H' U = some (.tup [a, b, c, e]) → DD K H' a da → DD K H' b db → DD K H' c dc → DD K H' e de → Good da → Good db → Good dc → Good de → Ext TT H H' → H' p = some (PotO m p) → m ≤ n + 14 → Q (.ref U) H'
theorem sc__law_given : FnScope ["_law_pot_here", "_law_early", "_law_least", "_law_late"] ["_law_pot_here"] (defScope (top 29)) := ⟨rfl, rfl, rfl, by decide +kernel, rfl, by decide +kernel, by decide +kernel⟩
theorem ok_given {G : Bool} (F : Has K mg "_law_given" (top 29)) (T : Blt mg) (D__law_take : Df P w K mg base false 1 "_law_take" (spTake TT)) (D__law_of : Df P w K mg base false 2 "_law_of" (spOf K TT)) (D__law_is : Df P w K mg base false 1 "_law_is" (spIs K)) (D__law_number : Df P w K mg base false 4 "_law_number" (spNumber K TT)) : Df P w K mg base G 5 "_law_given" (spGiven K TT) := by
  obtain ⟨f, fd, F, hm⟩ := F.ex
  refine df_ok F hm (F.binds (fun _ _ _ _ _ _ us hl => match us, hl with | [_], _ => rfl)) sc__law_given (fun vs H Q E h => ?_) (fun cdv A outer s H vs Q E hr hG h => ?_)
  · obtain ⟨_, _, rfl, _⟩ := h
    rfl
  · obtain ⟨p, n, rfl, hp, hn, k⟩ := h
    refine ⟨_, (pss_cons (ps_set (i := 1) sc__law_given.nd rfl (Or.inl rfl) (pe_df D__law_number hr (by first | decide | omega) (by first | exact hG | (intro z; cases z)) rfl passL (pa_cons (pv 0) (pa_cons pe_int (pa_cons pe_int pa_nil)))))
      (C8.pss_cut (ps_set (i := 2) sc__law_given.nd rfl (Or.inl rfl) (pe_ifExp (PW.pt (pw_and (pt_val (pe_df D__law_is hr (by first | decide | omega) (by first | exact hG | (intro z; cases z)) rfl passL (pa_cons pe_str (pa_cons (pv 1) pa_nil)))) (pw_and1 (pt_chain op_le op_le pe_int (pv 1) pe_int)))) (pv 1) pe_int))
      (pss_cons (ps_set (i := 3) sc__law_given.nd rfl (Or.inl rfl) (pe_df D__law_number hr (by first | decide | omega) (by first | exact hG | (intro z; cases z)) rfl passL (pa_cons (pv 0) (pa_cons (pv 2) (pa_cons pe_int pa_nil)))))
      (C8.pss_cut (ps_if (pt_cmpR op_eq (pe_df D__law_take hr (by first | decide | omega) (by first | exact hG | (intro z; cases z)) rfl passL (pa_cons (pv 0) (pa_cons pe_int pa_nil))) pe_int (nomark _)) (pss_one (ps_set (i := 3) sc__law_given.nd rfl (Or.inl rfl) (pe_df D__law_of hr (by first | decide | omega) (by first | exact hG | (intro z; cases z)) rfl passL (pa_cons (pv 0) (pa_cons (pe_lst (pa_cons pe_non (pa_cons (pe_op op_sub (pv 2) pe_int) (pa_cons pe_int pa_nil)))) pa_nil))))) pss_nil)
      (pss_one (ps_ret (pe_tup (pa_cons (pv 1) (pa_cons (pv 3) (pa_cons (pe_df D__law_number hr (by first | decide | omega) (by first | exact hG | (intro z; cases z)) rfl passL (pa_cons (pv 0) (pa_cons pe_int (pa_cons pe_int pa_nil)))) (pa_cons (pe_df D__law_number hr (by first | decide | omega) (by first | exact hG | (intro z; cases z)) rfl passL (pa_cons (pv 0) (pa_cons pe_int (pa_cons pe_int pa_nil)))) pa_nil))))))))))), ?_⟩
    refine ⟨_, rfl, .inl ⟨p, n, 0, 6, rfl, hp, by omega, by decide, by decide, by decide, fun a da m1 H1 ha ga e1 hp1 hm1 => ?_⟩⟩
    refine ⟨fun σ' H' => ∃ l : Int, 0 ≤ l ∧ l ≤ 6 ∧ σ' = [some (.ref p), some a, some (.int l), none] ∧ H' = H1, ?_, ?_⟩
    · refine ⟨_, rfl, .inl ⟨_, a, da, rfl, ha, _, rfl, ite2 (fun c => ?_) (fun c => ?_)⟩⟩
      · rw [kind_int] at c
        obtain ⟨i, rfl⟩ := isI_int c
        obtain rfl := ha.int_iff
        refine ⟨_, rfl, _, _, rfl, rfl, _, rfl, ite2 (fun c1 => ?_) (fun c1 => ?_)⟩
        · refine ⟨_, _, rfl, rfl, _, rfl, ite2 (fun c2 => ?_) (fun c2 => ?_)⟩
          · have c1 := of_decide_eq_true c1
            have c2 := of_decide_eq_true c2
            exact ⟨_, rfl, i, c1, c2, rfl, rfl⟩
          · exact ⟨0, by decide, by decide, rfl, rfl⟩
        · exact ⟨_, rfl, 0, by decide, by decide, rfl, rfl⟩
      · exact ⟨0, by decide, by decide, rfl, rfl⟩
    · rintro σ' H1 ⟨l, l0, l1, rfl, rfl⟩
      refine ⟨_, rfl, _, rfl, .inl ⟨p, m1, l, 6, rfl, hp1, by omega, l0, l1, by decide, fun b db m2 H2 hb gb e2 hp2 hm2 => ?_⟩⟩
      refine ⟨fun σ' H' => ∃ (b : V) (db : PyData) (m : Nat), DD K H' b db ∧ Good db ∧ Ext TT H1 H' ∧ H' p = some (PotO m p) ∧ m ≤ n + 8 ∧ σ' = [some (.ref p), some a, some (.int l), some b], ?_, ?_⟩
      · refine ⟨_, rfl, .inl ⟨p, m2, 5, rfl, hp2, by omega, by decide, by decide, fun r H3 r0 r1 e3 hp3 => ?_⟩⟩
        refine ⟨rfl, _, rfl, ite2 (fun c => ?_) (fun c => ?_)⟩
        · refine ⟨_, rfl, _, rfl, _, _, rfl, rfl, by show 3 ≤ sizeLine; decide, fun L hL => ?_⟩
          have g := Grow.new (o := .lst [.non, .int (l - 1), .int 0]) hL
          refine .inl ⟨p, L, m2 + 1, _, rfl, g _ _ hp3, by omega, .inl (.inl (.inl upd_same)), (by show 0 < _ + 1; omega), (by show 3 ≤ 1000000; decide), fun j v H4 hj e4 hp4 => ?_⟩
          have dd : DDs K (upd H3 L (.lst [.non, .int (l - 1), .int 0])) _ [.none, .int (l - 1), .int 0] := .cons .non (.cons (.int _) (.cons (.int _) .nil))
          obtain ⟨d, hd, dv⟩ := dd.get hj
          have gd : Good d := by
            have hm := List.mem_of_getElem? hd
            simp only [List.mem_cons, List.not_mem_nil, or_false] at hm
            rcases hm with rfl | rfl | rfl
            · exact (by decide +kernel : goodB .none = true)
            · exact good_small (by omega) (by omega)
            · exact good_small (by omega) (by omega)
          exact ⟨v, d, m2 + 1 + 1, dv.mono e4, gd, ((e2.trans e3).trans g.ext).trans e4, hp4, by omega, rfl⟩
        · exact ⟨b, db, m2 + 1, hb.mono e3, gb, e2.trans e3, hp3, by omega, rfl⟩
      · rintro σ' H3 ⟨b, db, m3, hb, gb, e3, hp3, hm3, rfl⟩
        refine ⟨_, rfl, _, rfl, _, rfl, .inl ⟨p, m3, 0, 6, rfl, hp3, by omega, by decide, by decide, by decide, fun c dc m4 H4 hc gc e4 hp4 hm4 => ?_⟩⟩
        refine ⟨_, rfl, .inl ⟨p, m4, 1, 2, rfl, hp4, by omega, by decide, by decide, by decide, fun e de m5 H5 he ge e5 hp5 hm5 => ⟨by show 4 ≤ sizeLine; decide, fun U hU => ?_⟩⟩⟩
        have g := Grow.new (o := .tup [a, b, c, e]) hU
        have x5 := g.ext (TT := TT)
        have x4 := e5.trans x5
        have x3 := e4.trans x4
        exact k U a b c e da db dc de m5 _ upd_same ((ha.mono e3).mono x3) (hb.mono x3) (hc.mono x4) (he.mono x5) ga gb gc ge ((e1.trans e3).trans x3) (g _ _ hp5) (by omega)
def spWrong (K : PySem.W.Frag) : Sp := fun vs H Q _ => ∃ (a b c : V) (da db dc : PyData), vs = [a, b, c] ∧ DD K H a da ∧ DD K H b db ∧ DD K H c dc ∧
  ∀ (L : Addr) (xs : List V), H L = none → (wrongD da db dc = none → xs = []) → (∀ d, wrongD da db dc = some d → ∃ v, xs = [v] ∧ DD K H v d) → Q (.ref L) (upd H L (.lst xs))
theorem sc__law_wrong : FnScope ["_law_early", "_law_late", "_law_held"] ["_law_early", "_law_late", "_law_held"] (defScope (top 31)) := ⟨rfl, rfl, rfl, by decide +kernel, rfl, by decide +kernel, by decide +kernel⟩
theorem ok_wrong {G : Bool} (F : Has K mg "_law_wrong" (top 31)) (T : Blt mg) (D__law_within : Df P w K mg base false 2 "_law_within" (spWithin K)) : Df P w K mg base G 3 "_law_wrong" (spWrong K) := by
  obtain ⟨f, fd, F, hm⟩ := F.ex
  refine df_ok F hm (F.binds (fun _ _ _ _ _ _ us hl => match us, hl with | [_, _, _], _ => rfl)) sc__law_wrong (fun vs H Q E h => ?_) (fun cdv A outer s H vs Q E hr hG h => ?_)
  · obtain ⟨_, _, _, _, _, _, rfl, _⟩ := h
    rfl
  · obtain ⟨a, b, c, da, db, dc, rfl, ha, hb, hc, k⟩ := h
    refine ⟨_, (pss_cons (ps_if (pt_not (pt_val (pe_df D__law_within hr (by first | decide | omega) (by first | exact hG | (intro z; cases z)) rfl passL (pa_cons (pv 0) (pa_cons pe_int (pa_cons pe_int pa_nil)))))) (pss_one (ps_ret (pe_lst (pa_cons (pv 0) pa_nil)))) pss_nil)
      (pss_cons (ps_if (PW.pt (pw_and (pt_cmp (pc_notN (pv 1))) (pw_and1 (pt_not (pt_val (pe_df D__law_within hr (by first | decide | omega) (by first | exact hG | (intro z; cases z)) rfl passL (pa_cons (pv 1) (pa_cons (pv 0) (pa_cons pe_int pa_nil))))))))) (pss_one (ps_ret (pe_lst (pa_cons (pv 1) pa_nil)))) pss_nil)
      (pss_one (ps_ret (pe_ifExp (pt_val (pe_df D__law_within hr (by first | decide | omega) (by first | exact hG | (intro z; cases z)) rfl passL (pa_cons (pv 2) (pa_cons pe_int (pa_cons pe_int pa_nil))))) (pe_lst pa_nil) (pe_lst (pa_cons (pv 2) pa_nil))))))), ?_⟩
    unfold wrongD at k
    refine ⟨_, rfl, .inl ⟨a, da, 0, 6, rfl, ha, _, rfl, ?_⟩⟩
    cases c1 : inD da 0 6 with
    | false =>
      rw [if_pos c1] at k
      refine ⟨_, rfl, by show 1 ≤ sizeLine; decide, fun L hL => k L _ hL (fun z => nomatch z) fun d e => ?_⟩
      cases e
      exact ⟨a, rfl, ha⟩
    | true =>
      rw [if_neg (by rw [c1]; simp)] at k
      obtain ⟨i, rfl, i0, i1⟩ := inD_int c1
      obtain rfl := ha.int_iff
      refine ⟨_, rfl, _, rfl, ?_⟩
      have last : (∀ (L : Addr) (xs : List V), H L = none → ((if inD dc 0 6 = true then none else some dc) = none → xs = []) → (∀ d, (if inD dc 0 6 = true then none else some dc) = some d → ∃ v, xs = [v] ∧ DD K H v d) → Q (.ref L) (upd H L (.lst xs))) →
          tRet (tIf (tB (tDf (spWithin K) E0 (tCons (tVar 2) (tCons (tC (.int 0)) (tCons (tC (.int 6)) tNil))))) (tLst tNil) (tLst (tCons (tVar 2) tNil))) { nx := fun _ H' => Q .non H', rt := Q } (start ["_law_early", "_law_late", "_law_held"] [.int i, b, c]) H := fun k => by
        refine ⟨_, rfl, .inl ⟨c, dc, 0, 6, rfl, hc, _, rfl, ite2 (fun c3 => ?_) (fun c3 => ?_)⟩⟩
        · rw [if_pos c3] at k
          exact ⟨by show 0 ≤ sizeLine; decide, fun L hL => k L [] hL (fun _ => rfl) fun d z => nomatch z⟩
        · rw [if_neg c3] at k
          refine ⟨_, rfl, by show 1 ≤ sizeLine; decide, fun L hL => k L _ hL (fun z => nomatch z) fun d e => ?_⟩
          cases e
          exact ⟨c, rfl, hc⟩
      rw [hb.is_none]
      cases c2 : noneD db with
      | true =>
        rw [if_neg (by rw [c2]; simp)] at k
        exact last k
      | false =>
        refine ⟨_, rfl, _, rfl, .inl ⟨b, db, i, 6, rfl, hb, _, rfl, ?_⟩⟩
        cases c3 : inD db i 6 with
        | false =>
          rw [if_pos ⟨c2, c3⟩] at k
          refine ⟨_, rfl, by show 1 ≤ sizeLine; decide, fun L hL => k L _ hL (fun z => nomatch z) fun d e => ?_⟩
          cases e
          exact ⟨b, rfl, hb⟩
        | true =>
          rw [if_neg (by show ¬ (_ ∧ inD db i 6 = false); rw [c3]; simp)] at k
          exact last k
end
end Aim

namespace Aim
open PySem PySem.Spec PyProof.Rows L2 RZ
open LamX (TabB)
section
variable {P : Program} {w : World} {K : PySem.W.Frag} {mg : Str → Option Value} {base : Heap} {TT : List (Addr × Str)}
/-! ### the class Person -/
abbrev sPI : Stmt := (inClass (top 18) 0)
abbrev pPs : List Str := ["self", "fast", "slow", "hold", "ahead"]
/-- what a made Person holds -/
def personF (a b c e : V) : List (Str × V) := putF "own_ahead" e (putF "own_hold" c (putF "own_slow" b (putF "own_fast" a [])))
structure ErrT (P : Program) (K : PySem.W.Frag) (mg : Str → Option Value) (stI : Stmt) (fI AE CT CA : Addr) : Prop where
  ini : AimI P K stI fI AE
  c_BadTicks : AimC K fI AE CT
  m_BadTicks : mg "BadTicks" = some (.ref CT)
  c_BadAhead : AimC K fI AE CA
  m_BadAhead : mg "BadAhead" = some (.ref CA)
structure Glb (mg : Str → Option Value) : Prop where
  g_MOST_TICKS : ∃ u, mg "MOST_TICKS" = some u ∧ RelV (.int 6) u
  g_MOST_AHEAD : ∃ u, mg "MOST_AHEAD" = some u ∧ RelV (.int 2) u
structure PerT (K : PySem.W.Frag) (mg : Str → Option Value) (C f : Addr) (fd : FuncData) : Prop where
  cl : Cls K C
  mkc : Mk K C f
  mgC : mg "Person" = some (.ref C)
  F : FunD K "__init__" "Person.__init__" (defArgs sPI) (defBody sPI) (defScope sPI) [] [("hold", .int 0), ("ahead", .int 1)] f fd
  n1 : NoAttr K C "own_fast"
  n2 : NoAttr K C "own_slow"
  n3 : NoAttr K C "own_hold"
  n4 : NoAttr K C "own_ahead"
section
variable {C f CT CA : Addr} {fd : FuncData}
theorem PerT.b1 (Z : PerT K mg C f fd) : ∃ ds, Vals [.int 0, .int 1] ds ∧ L2.Binds K fd pPs ds := Z.F.binds0 3 (by simp) rfl fun D doc pm an cdv ct us ks h1 h2 => match us, ks, h1, h2 with
  | [_, _, _], [_, _], _, _ => ⟨_, _, _, _, _, _, rfl, rfl, ⟨_, _, _, _, _, _, rfl, rfl, rfl⟩⟩
theorem PerT.b2 (Z : PerT K mg C f fd) : ∃ mv : List Value, KBn K fd pPs 3 ["hold"] (fun us ws => us ++ ws ++ mv) (fun vs zs => vs ++ zs ++ [.int 1]) := Z.F.kbinds0 3 ["hold"] [("ahead", .int 1)] (fun us mv ws => us ++ ws ++ mv) (by simp) (by simp) (fun r1 r2 r3 => (r1.append r3).append r2) fun D doc pm an cdv ct us mv ws h1 h2 h3 => match us, mv, ws, h1, h2, h3 with
  | [_, _, _], [_], [_], _, _, _ => ⟨_, _, _, _, _, _, rfl, rfl, rfl⟩
theorem PerT.b3 (Z : PerT K mg C f fd) : ∃ mv : List Value, KBn K fd pPs 3 ["ahead"] (fun us ws => us ++ mv ++ ws) (fun vs zs => vs ++ [.int 0] ++ zs) := Z.F.kbinds0 3 ["ahead"] [("hold", .int 0)] (fun us mv ws => us ++ mv ++ ws) (by simp) (by simp) (fun r1 r2 r3 => (r1.append r2).append r3) fun D doc pm an cdv ct us mv ws h1 h2 h3 => match us, mv, ws, h1, h2, h3 with
  | [_, _, _], [_], [_], _, _, _ => ⟨_, _, _, _, _, _, rfl, rfl, rfl⟩
theorem PerT.b5 (Z : PerT K mg C f fd) : ∃ mv : List Value, KBn K fd pPs 3 ["hold", "ahead"] (fun us ws => us ++ mv ++ ws) (fun vs zs => vs ++ [] ++ zs) := Z.F.kbinds0 3 ["hold", "ahead"] [] (fun us mv ws => us ++ mv ++ ws) (by simp) (by simp) (fun r1 r2 r3 => (r1.append r2).append r3) fun D doc pm an cdv ct us mv ws h1 h2 h3 => match us, mv, ws, h1, h2, h3 with
  | [_, _, _], [], [_, _], _, _, _ => rfl
/-- fast, slow, hold, ahead out of ahead, slow, hold, fast -/
def turned {α : Type} : List α → List α
  | [a, b, c, d] => [d, b, c, a]
  | _ => []
theorem putF_len (f : Str) (v : V) : ∀ fs : List (Str × V), (putF f v fs).length ≤ fs.length + 1
  | [] => by show 1 ≤ 0 + 1; omega
  | (g, u) :: r => by
    show (if g = f then (g, v) :: r else (g, u) :: putF f v r).length ≤ _
    split
    · simp
    · simpa using putF_len f v r
theorem turned_vals : ∀ {vs : List V} {us : List Value}, Vals vs us → Vals (turned vs) (turned us)
  | _, _, .nil => .nil
  | _, _, .cons _ .nil => .nil
  | _, _, .cons _ (.cons _ .nil) => .nil
  | _, _, .cons _ (.cons _ (.cons _ .nil)) => .nil
  | _, _, .cons a (.cons b (.cons c (.cons d .nil))) => .cons d (.cons b (.cons c (.cons a .nil)))
  | _, _, .cons _ (.cons _ (.cons _ (.cons _ (.cons _ _)))) => .nil
theorem PerT.b4 (Z : PerT K mg C f fd) : ∃ mv : List Value, KBn K fd pPs 1 ["ahead", "slow", "hold", "fast"] (fun us ws => us ++ mv ++ turned ws) (fun vs zs => vs ++ [] ++ turned zs) := Z.F.kbinds0 1 ["ahead", "slow", "hold", "fast"] [] (fun us mv ws => us ++ mv ++ turned ws) (by simp) (by simp) (fun r1 r2 r3 => (r1.append r2).append (turned_vals r3)) fun D doc pm an cdv ct us mv ws h1 h2 h3 => match us, mv, ws, h1, h2, h3 with
  | [_], [], [_, _, _, _], _, _, _ => rfl
/-- Person.__init__: what is wrong is told by the error, else the four numbers are kept -/
def spPerson (K : PySem.W.Frag) (C CT CA : Addr) : Sp := fun vs H Q E => ∃ (x dx : Addr) (a b c e : V) (da db dc de : PyData), vs = [.ref x, a, b, c, e] ∧ H x = some (.ins C dx []) ∧ DD K H a da ∧ DD K H b db ∧ DD K H c dc ∧ DD K H e de ∧
  (∀ d v, wrongD da db dc = some d → DD K H v d → ∀ dd, H dd = none → E (.ref CT) (some dd) (upd H dd (.xd [("value", v)]))) ∧
  (wrongD da db dc = none → inD de 1 2 = false → ∀ dd, H dd = none → E (.ref CA) (some dd) (upd H dd (.xd [("value", e)]))) ∧
  (wrongD da db dc = none → inD de 1 2 = true → Q .non (upd H x (.ins C dx (personF a b c e))))
theorem sc_Person___init__ : FnScope ["self", "fast", "slow", "hold", "ahead"] ["self", "fast", "slow", "hold", "ahead"] (defScope (inClass (top 18) 0)) := ⟨rfl, rfl, rfl, by decide +kernel, rfl, by decide +kernel, by decide +kernel⟩
theorem ok_person {stI : Stmt} {fI AE : Addr} (W : PerT K mg C f fd) (Z : ErrT P K mg stI fI AE CT CA) (Y : Glb mg) (T : Blt mg) (D_is_from : Df P w K mg base false 2 "is_from" (spFrom K)) : FnOk P w K mg base (L2.CX P w) 3 f fd pPs (spPerson K C CT CA) := by
  refine W.F.ok (CX := L2.CX P w) sc_Person___init__ (fun vs H Q E h => ?_) (fun cdv A outer s H vs Q E hr h => ?_)
  · obtain ⟨_, _, _, _, _, _, _, _, _, _, rfl, _⟩ := h
    rfl
  · obtain ⟨x, dx, a, b, c, e, da, db, dc, de, rfl, hx, ha, hb, hc, he, k1, k2, k3⟩ := h
    have hG : false = true → A.guards = some [] := fun z => nomatch z
    refine ⟨_, (pss_cons (ps_if (pt_not (pt_val (pe_df D_is_from hr (by first | decide | omega) (by first | exact hG | (intro z; cases z)) rfl passL (pa_cons (pv 1) (pa_cons pe_int (pa_cons (pe_gl rfl Y.g_MOST_TICKS) pa_nil)))))) (pss_one (ps_raise rfl (takes_of rfl rfl rfl rfl) (pmk_aim Z.ini Z.c_BadTicks T.n_super (hr.mono (by decide)) rfl Z.m_BadTicks (pv 1)))) pss_nil)
      (C8.pss_cut (ps_if (PW.pt (pw_and (pt_cmp (pc_notN (pv 2))) (pw_and1 (pt_not (pt_val (pe_df D_is_from hr (by first | decide | omega) (by first | exact hG | (intro z; cases z)) rfl passL (pa_cons (pv 2) (pa_cons (pv 1) (pa_cons (pe_gl rfl Y.g_MOST_TICKS) pa_nil))))))))) (pss_one (ps_raise rfl (takes_of rfl rfl rfl rfl) (pmk_aim Z.ini Z.c_BadTicks T.n_super (hr.mono (by decide)) rfl Z.m_BadTicks (pv 2)))) pss_nil)
      (pss_cons (ps_if (pt_not (pt_val (pe_df D_is_from hr (by first | decide | omega) (by first | exact hG | (intro z; cases z)) rfl passL (pa_cons (pv 3) (pa_cons pe_int (pa_cons (pe_gl rfl Y.g_MOST_TICKS) pa_nil)))))) (pss_one (ps_raise rfl (takes_of rfl rfl rfl rfl) (pmk_aim Z.ini Z.c_BadTicks T.n_super (hr.mono (by decide)) rfl Z.m_BadTicks (pv 3)))) pss_nil)
      (pss_cons (ps_if (pt_not (pt_val (pe_df D_is_from hr (by first | decide | omega) (by first | exact hG | (intro z; cases z)) rfl passL (pa_cons (pv 4) (pa_cons pe_int (pa_cons (pe_gl rfl Y.g_MOST_AHEAD) pa_nil)))))) (pss_one (ps_raise rfl (takes_of rfl rfl rfl rfl) (pmk_aim Z.ini Z.c_BadAhead T.n_super (hr.mono (by decide)) rfl Z.m_BadAhead (pv 4)))) pss_nil)
      (pss_cons (ps_fld (pv 0) (pv 1) rfl)
      (pss_cons (ps_fld (pv 0) (pv 2) rfl)
      (pss_cons (ps_fld (pv 0) (pv 3) rfl)
      (pss_one (ps_fld (pv 0) (pv 4) rfl))))))))), ?_⟩
    unfold wrongD at k1 k2 k3
    refine ⟨_, rfl, .inl ⟨a, da, 0, 6, rfl, ha, _, rfl, ?_⟩⟩
    cases c1 : inD da 0 6 with
    | false =>
      rw [if_pos c1] at k1
      exact ⟨_, rfl, fun dd hd => k1 da a rfl ha dd hd⟩
    | true =>
      rw [if_neg (by rw [c1]; simp)] at k1 k2 k3
      obtain ⟨i, rfl, i0, i1⟩ := inD_int c1
      obtain rfl := ha.int_iff
      refine ⟨fun σ' H' => σ' = [some (.ref x), some (.int i), some b, some c, some e] ∧ H' = H ∧ (noneD db = true ∨ inD db i 6 = true), ?_, ?_⟩
      · refine ⟨_, rfl, _, rfl, ?_⟩
        rw [hb.is_none]
        cases c2 : noneD db with
        | true => exact ⟨rfl, rfl, .inl rfl⟩
        | false =>
          refine ⟨_, rfl, _, rfl, .inl ⟨b, db, i, 6, rfl, hb, _, rfl, ?_⟩⟩
          cases c3 : inD db i 6 with
          | false =>
            rw [if_pos ⟨c2, c3⟩] at k1
            exact ⟨_, rfl, fun dd hd => k1 db b rfl hb dd hd⟩
          | true => exact ⟨rfl, rfl, .inr rfl⟩
      · rintro σ' H' ⟨rfl, rfl, hm⟩
        have hm : ¬ (noneD db = false ∧ inD db (intD (.int i)) 6 = false) := fun z => by
          have z2 : inD db i 6 = false := z.2
          rcases hm with y | y
          · rw [z.1] at y
            cases y
          · rw [z2] at y
            cases y
        rw [if_neg hm] at k1 k2 k3
        refine ⟨_, rfl, .inl ⟨c, dc, 0, 6, rfl, hc, _, rfl, ?_⟩⟩
        cases c3 : inD dc 0 6 with
        | false =>
          rw [c3] at k1
          exact ⟨_, rfl, fun dd hd => k1 dc c rfl hc dd hd⟩
        | true =>
          rw [c3] at k2 k3
          refine ⟨_, rfl, .inl ⟨e, de, 1, 2, rfl, he, _, rfl, ?_⟩⟩
          cases c4 : inD de 1 2 with
          | false => exact ⟨_, rfl, fun dd hd => k2 rfl c4 dd hd⟩
          | true =>
            have l1 := putF_len "own_fast" (V.int i) []
            have l2 := putF_len "own_slow" b (putF "own_fast" (V.int i) [])
            have l3 := putF_len "own_hold" c (putF "own_slow" b (putF "own_fast" (V.int i) []))
            simp only [List.length_nil] at l1
            refine ⟨_, rfl, _, rfl, x, C, dx, [], rfl, hx, W.cl, W.n1, by decide, ?_⟩
            refine ⟨_, rfl, _, rfl, x, C, dx, _, rfl, upd_same, W.cl, W.n2, by omega, ?_⟩
            refine ⟨_, rfl, _, rfl, x, C, dx, _, rfl, upd_same, W.cl, W.n3, by omega, ?_⟩
            refine ⟨_, rfl, _, rfl, x, C, dx, _, rfl, upd_same, W.cl, W.n4, by omega, ?_⟩
            rw [upd_upd, upd_upd, upd_upd]
            exact k3 rfl c4
end
end
end Aim

namespace Aim
open PySem PySem.Spec PyProof.Rows L2 RZ
open LamX (TabB)
section
variable {P : Program} {w : World} {K : PySem.W.Frag} {mg : Str → Option Value} {base : Heap} {TT : List (Addr × Str)}
/-! ### the four numbers of a Person -/
/-- a property of the class at C, by its getter -/
structure Prp (K : PySem.W.Frag) (C : Addr) (nm fld qual : Str) (st : Stmt) : Prop where
  ex : ∃ (p g : Addr) (fd : FuncData), PropOf K C nm p g ∧ L2.Fun K nm qual st g fd ∧ NoAttr K C fld
section
variable {X : Cx} {C : Addr} {nm fld qual : Str} {st : Stmt} {e : Expr} {ta : TE} {pos : Pos}
theorem pe_prp (W : Prp X.K C nm fld qual st) (cl : Cls X.K C) (hr : Room 2 X.A) (S : FnScope ["self"] ["self"] (defScope st)) (hb : ∃ p1 p2 p3, defBody st = [.Return (some (.Attribute (.Name "self" p1) fld p2)) p3])
    (hbi : ∀ (kV doc pm : Value) (an : Option Addr) (cdv ct : Value) (us : List Value), us.length = 1 → bindArgs (PySem.W.fnOf nm qual (defArgs st) (defBody st) (defScope st) .none kV doc pm an cdv ct) ⟨us, []⟩ = pure ((["self"] : List Str).zip us)) (he : PE X e ta) (hab : attributeBase e nm X.env (eval e X.env) = eval e X.env := by rfl) : PE X (.Attribute e nm pos) (tProp C (getSp C fld) [] E0 ta) := by
  obtain ⟨p, g, fd, hp, F, n⟩ := W.ex
  obtain ⟨p1, p2, p3, hb⟩ := hb
  obtain ⟨oc, od, kV, doc, pm, an, cdv, ct, osl, e1, lk, hcd⟩ := id F.ex
  subst e1
  have G : FnOk X.prog X.w X.K X.mg X.base (L2.CX X.prog X.w) 1 g _ ["self"] (getSp C fld) := fn_getter lk hcd S rfl hb cl n
  exact pe_prop (pos := pos) (E := E0) he cl hp G hr (F.binds hbi) .nil (fun _ _ _ _ _ _ _ h => (passL (X := X.nox)) _ _ _ _ _ _ (by assumption) h) hab
end
/-- the class's four properties -/
structure PrpT (K : PySem.W.Frag) (C : Addr) : Prop where
  p1 : Prp K C "fast" "own_fast" "Person.fast" (inClass (top 18) 1)
  p2 : Prp K C "slow" "own_slow" "Person.slow" (inClass (top 18) 2)
  p3 : Prp K C "hold" "own_hold" "Person.hold" (inClass (top 18) 3)
  p4 : Prp K C "ahead" "own_ahead" "Person.ahead" (inClass (top 18) 4)
theorem sc_Person_fast : FnScope ["self"] ["self"] (defScope (inClass (top 18) 1)) := ⟨rfl, rfl, rfl, by decide +kernel, rfl, by decide +kernel, by decide +kernel⟩
theorem sc_Person_slow : FnScope ["self"] ["self"] (defScope (inClass (top 18) 2)) := ⟨rfl, rfl, rfl, by decide +kernel, rfl, by decide +kernel, by decide +kernel⟩
theorem sc_Person_hold : FnScope ["self"] ["self"] (defScope (inClass (top 18) 3)) := ⟨rfl, rfl, rfl, by decide +kernel, rfl, by decide +kernel, by decide +kernel⟩
theorem sc_Person_ahead : FnScope ["self"] ["self"] (defScope (inClass (top 18) 4)) := ⟨rfl, rfl, rfl, by decide +kernel, rfl, by decide +kernel, by decide +kernel⟩
theorem pF1 (a b c e : V) : (personF a b c e).lookup ("own_fast" : Str) = some a := by
  unfold personF
  rw [lookup_putF, if_neg (by decide +kernel), lookup_putF, if_neg (by decide +kernel), lookup_putF, if_neg (by decide +kernel), lookup_putF, if_pos rfl]
theorem pF2 (a b c e : V) : (personF a b c e).lookup ("own_slow" : Str) = some b := by
  unfold personF
  rw [lookup_putF, if_neg (by decide +kernel), lookup_putF, if_neg (by decide +kernel), lookup_putF, if_pos rfl]
theorem pF3 (a b c e : V) : (personF a b c e).lookup ("own_hold" : Str) = some c := by
  unfold personF
  rw [lookup_putF, if_neg (by decide +kernel), lookup_putF, if_pos rfl]
theorem pF4 (a b c e : V) : (personF a b c e).lookup ("own_ahead" : Str) = some e := by
  unfold personF
  rw [lookup_putF, if_pos rfl]
def spNumbers (C : Addr) : Sp := fun vs H Q _ => ∃ (x dx : Addr) (a b c e : V), vs = [.ref x] ∧ H x = some (.ins C dx (personF a b c e)) ∧ ∀ N, H N = none → Q (.ref N) (upd H N (.lst [a, b, c, e]))
section
variable {C f CT CA : Addr} {fd : FuncData}
theorem sc__law_numbers : FnScope ["_law_person"] ["_law_person"] (defScope (top 32)) := ⟨rfl, rfl, rfl, by decide +kernel, rfl, by decide +kernel, by decide +kernel⟩
theorem ok_numbers {G : Bool} {f0 : Addr} {fd0 : FuncData} (F : Has K mg "_law_numbers" (top 32)) (T : Blt mg) (W : PerT K mg C f0 fd0) (V : PrpT K C) : Df P w K mg base G 3 "_law_numbers" (spNumbers C) := by
  obtain ⟨f, fd, F, hm⟩ := F.ex
  refine df_ok F hm (F.binds (fun _ _ _ _ _ _ us hl => match us, hl with | [_], _ => rfl)) sc__law_numbers (fun vs H Q E h => ?_) (fun cdv A outer s H vs Q E hr hG h => ?_)
  · obtain ⟨_, _, _, _, _, _, rfl, _⟩ := h
    rfl
  · obtain ⟨x, dx, a, b, c, e, rfl, hx, k⟩ := h
    refine ⟨_, (pss_one (ps_ret (pe_lst (pa_cons (pe_prp V.p1 W.cl (hr.mono (by decide)) sc_Person_fast ⟨_, _, _, rfl⟩ (fun _ _ _ _ _ _ us hl => match us, hl with | [_], _ => rfl) (pv 0)) (pa_cons (pe_prp V.p2 W.cl (hr.mono (by decide)) sc_Person_slow ⟨_, _, _, rfl⟩ (fun _ _ _ _ _ _ us hl => match us, hl with | [_], _ => rfl) (pv 0)) (pa_cons (pe_prp V.p3 W.cl (hr.mono (by decide)) sc_Person_hold ⟨_, _, _, rfl⟩ (fun _ _ _ _ _ _ us hl => match us, hl with | [_], _ => rfl) (pv 0)) (pa_cons (pe_prp V.p4 W.cl (hr.mono (by decide)) sc_Person_ahead ⟨_, _, _, rfl⟩ (fun _ _ _ _ _ _ us hl => match us, hl with | [_], _ => rfl) (pv 0)) pa_nil))))))), ?_⟩
    refine ⟨_, rfl, x, dx, _, rfl, hx, x, dx, _, _, rfl, hx, pF1 a b c e, ?_⟩
    refine ⟨_, rfl, x, dx, _, rfl, hx, x, dx, _, _, rfl, hx, pF2 a b c e, ?_⟩
    refine ⟨_, rfl, x, dx, _, rfl, hx, x, dx, _, _, rfl, hx, pF3 a b c e, ?_⟩
    refine ⟨_, rfl, x, dx, _, rfl, hx, x, dx, _, _, rfl, hx, pF4 a b c e, ?_⟩
    exact ⟨by show 4 ≤ sizeLine; decide, k⟩
end
end
end Aim

namespace Aim
open PySem PySem.Spec PyProof.Rows L2 RZ
open LamX (TabB)
section
variable {P : Program} {w : World} {K : PySem.W.Frag} {mg : Str → Option Value} {base : Heap} {TT : List (Addr × Str)}
/-! ### Persons made in four ways -/
/-- a value without parts that is None or a number -/
inductive Fl : V → PyData → Prop
  | non : Fl .non .none
  | int (i : Int) : Fl (.int i) (.int i)
theorem Fl.dd {v : V} {d : PyData} (f : Fl v d) {H : Hp} : DD K H v d := by
  cases f with
  | non => exact .non
  | int i => exact .int i
theorem Fl.flat {v : V} {d : PyData} (f : Fl v d) : flatD d = true := by cases f <;> rfl
theorem fl_of {v : V} {d : PyData} {H : Hp} {lo hi : Int} (h : DD K H v d) (e : inD d lo hi = true) : Fl v d := by
  obtain ⟨i, rfl, _⟩ := inD_int e
  obtain rfl := h.int_iff
  exact .int i
theorem right_of {a b c : V} {da db dc : PyData} {H : Hp} (ha : DD K H a da) (hb : DD K H b db) (hc : DD K H c dc) (h : wrongD da db dc = none) : Fl a da ∧ Fl b db ∧ Fl c dc := by
  unfold wrongD at h
  cases c1 : inD da 0 6 with
  | false =>
    rw [if_pos c1] at h
    cases h
  | true =>
    rw [if_neg (by rw [c1]; simp)] at h
    refine ⟨fl_of ha c1, ?_⟩
    by_cases c2 : noneD db = false ∧ inD db (intD da) 6 = false
    · rw [if_pos c2] at h
      cases h
    · rw [if_neg c2] at h
      cases c3 : inD dc 0 6 with
      | false =>
        rw [c3] at h
        cases h
      | true =>
        refine ⟨?_, fl_of hc c3⟩
        cases c4 : inD db (intD da) 6 with
        | true => exact fl_of hb c4
        | false =>
          cases hb with
          | non => exact .non
          | _ => exact absurd ⟨rfl, c4⟩ c2
/-- the four flat values a Person is made with, none of them wrong -/
structure RightP (a b c e : V) (da db dc de : PyData) : Prop where
  fa : Fl a da
  fb : Fl b db
  fc : Fl c dc
  fe : Fl e de
  ok : wrongD da db dc = none
  ok2 : inD de 1 2 = true
theorem wrongD_zero {da db dc : PyData} (h : wrongD da db dc = none) : wrongD da db (.int 0) = none := by
  unfold wrongD at h ⊢
  by_cases c1 : inD da 0 6 = false
  · rw [if_pos c1] at h
    cases h
  · rw [if_neg c1] at h ⊢
    by_cases c2 : noneD db = false ∧ inD db (intD da) 6 = false
    · rw [if_pos c2] at h
      cases h
    · rw [if_neg c2]
      rfl
section
variable {C f CT CA : Addr} {fd : FuncData}
theorem made_ok {H : Hp} {Q : VK} {E : XK} {x dx : Addr} {a b c e : V} {da db dc de : PyData} (R : RightP a b c e da db dc de) (hx : H x = none) (hdx : H dx = none) (ne : dx ≠ x) (k : Q .non (upd (upd H dx (.own x)) x (.ins C dx (personF a b c e)))) :
    spPerson K C CT CA [.ref x, a, b, c, e] (upd (upd H dx (.own x)) x (.ins C dx [])) Q E :=
  ⟨x, dx, a, b, c, e, da, db, dc, de, rfl, upd_same, R.fa.dd, R.fb.dd, R.fc.dd, R.fe.dd, fun d v z => by (rw [R.ok] at z; cases z), fun _ z => by (rw [R.ok2] at z; cases z), fun _ _ => by rw [upd_upd]; exact k⟩
theorem made_grow {H : Hp} {x dx : Addr} {fs : List (Str × V)} (hx : H x = none) (hdx : H dx = none) (ne : dx ≠ x) : Grow H (upd (upd H dx (.own x)) x (.ins C dx fs)) := (Grow.new hdx).trans (.new (by rw [upd_ne ne.symm]; exact hx))
theorem row_new {H : Hp} {x y M t : Addr} {fs : List (Str × V)} {ms : List V} (hx : H x = none) (hy : H y = none) (ne : y ≠ x) (hM : upd (upd H y (.own x)) x (.ins C y fs) M = none) (ht : upd (upd (upd H y (.own x)) x (.ins C y fs)) M (.lst ms) t = none) :
    Grow H (upd (upd (upd (upd H y (.own x)) x (.ins C y fs)) M (.lst ms)) t (.tup [.ref x, .ref M])) ∧ (upd (upd (upd (upd H y (.own x)) x (.ins C y fs)) M (.lst ms)) t (.tup [.ref x, .ref M])) t = some (.tup [.ref x, .ref M]) ∧
    (upd (upd (upd (upd H y (.own x)) x (.ins C y fs)) M (.lst ms)) t (.tup [.ref x, .ref M])) x = some (.ins C y fs) ∧ (upd (upd (upd (upd H y (.own x)) x (.ins C y fs)) M (.lst ms)) t (.tup [.ref x, .ref M])) M = some (.lst ms) := by
  have g1 := Grow.new (o := .lst ms) hM
  have g2 := Grow.new (o := .tup [.ref x, .ref M]) ht
  exact ⟨(made_grow hx hy ne).trans (g1.trans g2), upd_same, (g1.trans g2) _ _ upd_same, g2 _ _ upd_same⟩
theorem fresh_ne {H H' : Hp} {a b : Addr} {o : HO} (g : Grow H H') (h : H b = some o) (n : H' a = none) : b ≠ a := ne_of_none (g _ _ h) n
/-- a row: a Person and its due numbers, apart from L -/
def RowP (C L : Addr) (a b : V) (H : Hp) (v : V) : Prop := ∃ (t x dx M : Addr) (c e : V) (dc de : PyData), v = .ref t ∧ t ≠ L ∧ x ≠ L ∧ M ≠ L ∧ H t = some (.tup [.ref x, .ref M]) ∧ H x = some (.ins C dx (personF a b c e)) ∧ H M = some (.lst [a, b, c, e]) ∧ Fl c dc ∧ Fl e de
theorem RowP.grow {L : Addr} {a b : V} {H H' : Hp} {v : V} (r : RowP C L a b H v) (g : Grow H H') : RowP C L a b H' v := by
  obtain ⟨t, x, dx, M, c, e, dc, de, h0, h1, h2, h3, h4, h5, h6, h7⟩ := r
  exact ⟨t, x, dx, M, c, e, dc, de, h0, h1, h2, h3, g _ _ h4, g _ _ h5, g _ _ h6, h7⟩
theorem RowP.put {L : Addr} {a b : V} {H : Hp} {v : V} {o : HO} (r : RowP C L a b H v) : RowP C L a b (upd H L o) v := by
  obtain ⟨t, x, dx, M, c, e, dc, de, h0, h1, h2, h3, h4, h5, h6, h7⟩ := r
  exact ⟨t, x, dx, M, c, e, dc, de, h0, h1, h2, h3, by rw [upd_ne h1]; exact h4, by rw [upd_ne h2]; exact h5, by rw [upd_ne h3]; exact h6, h7⟩
/-- a pair of the same numbers, apart from D -/
def PairP (D : Addr) (a b : V) (H : Hp) (v : V) : Prop := ∃ (U N M : Addr) (c e : V) (dc de : PyData), v = .ref U ∧ U ≠ D ∧ N ≠ D ∧ M ≠ D ∧ H U = some (.tup [.ref N, .ref M]) ∧ H N = some (.lst [a, b, c, e]) ∧ H M = some (.lst [a, b, c, e]) ∧ Fl c dc ∧ Fl e de
theorem PairP.grow {D : Addr} {a b : V} {H H' : Hp} {v : V} (r : PairP D a b H v) (g : Grow H H') : PairP D a b H' v := by
  obtain ⟨t, x, M, c, e, dc, de, h0, h1, h2, h3, h4, h5, h6, h7⟩ := r
  exact ⟨t, x, M, c, e, dc, de, h0, h1, h2, h3, g _ _ h4, g _ _ h5, g _ _ h6, h7⟩
theorem PairP.put {D : Addr} {a b : V} {H : Hp} {v : V} {o : HO} (r : PairP D a b H v) : PairP D a b (upd H D o) v := by
  obtain ⟨t, x, M, c, e, dc, de, h0, h1, h2, h3, h4, h5, h6, h7⟩ := r
  exact ⟨t, x, M, c, e, dc, de, h0, h1, h2, h3, by rw [upd_ne h1]; exact h4, by rw [upd_ne h2]; exact h5, by rw [upd_ne h3]; exact h6, h7⟩
def spLeft : Sp := fun vs H Q _ => ∃ (a b c e : V) (da db dc de : PyData), vs = [a, b, c, e] ∧ RightP a b c e da db dc de ∧
  ∀ (D : Addr) (acc : List V) (H' : Hp), Grow H H' → H' D = some (.lst acc) → acc.length ≤ 10 → (∀ v ∈ acc, PairP D a b H' v) → Q (.ref D) H'
theorem sc__law_left_out : FnScope ["_law_early", "_law_late", "_law_held", "_law_many", "_law_some", "_law_person", "_law_due"] ["_law_early", "_law_late", "_law_held", "_law_many"] (defScope (top 33)) := ⟨rfl, rfl, rfl, by decide +kernel, rfl, by decide +kernel, by decide +kernel⟩
theorem ok_left {G : Bool} {f0 : Addr} {fd0 : FuncData} (F : Has K mg "_law_left_out" (top 33)) (T : Blt mg) (W : PerT K mg C f0 fd0) (FP : FnOk P w K mg base (L2.CX P w) 3 f0 fd0 pPs (spPerson K C CT CA)) (D__law_numbers : Df P w K mg base G 3 "_law_numbers" (spNumbers C)) : Df P w K mg base G 5 "_law_left_out" (spLeft) := by
  obtain ⟨f, fd, F, hm⟩ := F.ex
  refine df_ok F hm (F.binds (fun _ _ _ _ _ _ us hl => match us, hl with | [_, _, _, _], _ => rfl)) sc__law_left_out (fun vs H Q E h => ?_) (fun cdv A outer s H vs Q E hr hG h => ?_)
  · obtain ⟨_, _, _, _, _, _, _, _, rfl, _⟩ := h
    rfl
  · obtain ⟨a, b, c, e, da, db, dc, de, rfl, R, k⟩ := h
    obtain ⟨ds1, hd1, hb1⟩ := W.b1
    obtain ⟨mv2, hb2⟩ := W.b2
    obtain ⟨mv3, hb3⟩ := W.b3
    obtain ⟨mv4, hb4⟩ := W.b4
    refine ⟨_, (pss_cons (ps_set (i := 4) sc__law_left_out.nd rfl (Or.inl rfl) (pe_lst (pa_cons (pe_tup (pa_cons (pe_make W.mkc FP (hr.mono (by decide)) rfl W.mgC hb1 hd1 passL (pa_cons (pv 0) (pa_cons (pv 1) pa_nil))) (pa_cons (pe_lst (pa_cons (pv 0) (pa_cons (pv 1) (pa_cons pe_int (pa_cons pe_int pa_nil))))) pa_nil))) (pa_cons (pe_tup (pa_cons (pe_makeK W.mkc FP (hr.mono (by decide)) rfl W.mgC hb2 passL (pa_cons (pv 0) (pa_cons (pv 1) pa_nil)) (pk_cons (pv 2) pk_nil)) (pa_cons (pe_lst (pa_cons (pv 0) (pa_cons (pv 1) (pa_cons (pv 2) (pa_cons pe_int pa_nil))))) pa_nil))) pa_nil))))
      (pss_cons (ps_expr (pe_bm PySem.F.plainAttrs_list PySem.F.slot_list_append PySem.F.type_list_append mt_append (pv 4) (pa_cons (pe_tup (pa_cons (pe_makeK W.mkc FP (hr.mono (by decide)) rfl W.mgC hb3 passL (pa_cons (pv 0) (pa_cons (pv 1) pa_nil)) (pk_cons (pv 3) pk_nil)) (pa_cons (pe_lst (pa_cons (pv 0) (pa_cons (pv 1) (pa_cons pe_int (pa_cons (pv 3) pa_nil))))) pa_nil))) pa_nil)))
      (pss_cons (ps_expr (pe_bm PySem.F.plainAttrs_list PySem.F.slot_list_append PySem.F.type_list_append mt_append (pv 4) (pa_cons (pe_tup (pa_cons (pe_makeK0 W.mkc FP (hr.mono (by decide)) rfl W.mgC hb4 passL (pk_cons (pv 3) (pk_cons (pv 1) (pk_cons (pv 2) (pk_cons (pv 0) pk_nil))))) (pa_cons (pe_lst (pa_cons (pv 0) (pa_cons (pv 1) (pa_cons (pv 2) (pa_cons (pv 3) pa_nil))))) pa_nil))) pa_nil)))
      (pss_one (ps_ret (pe_lc (own := [("_law_person", 5), ("_law_due", 6)]) rfl sc__law_left_out.nd (pi_list (pv 4)) (blkOk_by rfl) (fun _ _ _ _ _ => (show PG _ _ (gTup K 2 (gCons (gName 5) (gCons (gName 6) gNil))) from pg_tup (n := 2) rfl (pgs_cons (pg_name (i := 5) sc__law_left_out.nd rfl (Or.inl rfl) (Or.inr rfl)) (pgs_cons (pg_name (i := 6) sc__law_left_out.nd rfl (Or.inl rfl) (Or.inr rfl)) pgs_nil)))) (fun _ _ _ _ _ => pts_nil) (fun _ _ _ _ _ => (pe_tup (pa_cons (pe_df D__law_numbers hr (by first | decide | omega) (by first | exact hG | (intro z; cases z)) rfl passL (pa_cons (pv 5) pa_nil)) (pa_cons (pv 6) pa_nil)))))))))), ?_⟩
    have R1 : RightP a b (.int 0) (.int 1) da db (.int 0) (.int 1) := ⟨R.fa, R.fb, .int 0, .int 1, wrongD_zero R.ok, rfl⟩
    have R2 : RightP a b c (.int 1) da db dc (.int 1) := ⟨R.fa, R.fb, R.fc, .int 1, R.ok, rfl⟩
    have R3 : RightP a b (.int 0) e da db (.int 0) de := ⟨R.fa, R.fb, .int 0, R.fe, wrongD_zero R.ok, R.ok2⟩
    -- the first two rows
    refine ⟨_, rfl, _, rfl, fun x1 y1 hx1 hy1 n1 => made_ok R1 hx1 hy1 n1 ⟨rfl, ?_⟩⟩
    refine ⟨_, rfl, _, rfl, by show 4 ≤ sizeLine; decide, fun M1 hM1 => ⟨by show 2 ≤ sizeLine; decide, fun t1 ht1 => ?_⟩⟩
    obtain ⟨g1, t1', x1', M1'⟩ := row_new hx1 hy1 n1 hM1 ht1
    obtain ⟨H1, e1⟩ : ∃ H1, H1 = upd (upd (upd (upd H y1 (.own x1)) x1 (.ins C y1 (personF a b (.int 0) (.int 1)))) M1 (.lst [a, b, .int 0, .int 1])) t1 (.tup [.ref x1, .ref M1]) := ⟨_, rfl⟩
    rw [← e1] at g1 t1' x1' M1' ⊢
    refine ⟨_, rfl, _, rfl, _, rfl, rfl, rfl, fun x2 y2 hx2 hy2 n2 => made_ok R2 hx2 hy2 n2 ⟨rfl, ?_⟩⟩
    refine ⟨_, rfl, _, rfl, _, rfl, by show 4 ≤ sizeLine; decide, fun M2 hM2 => ⟨by show 2 ≤ sizeLine; decide, fun t2 ht2 => ?_⟩⟩
    obtain ⟨g2, t2', x2', M2'⟩ := row_new hx2 hy2 n2 hM2 ht2
    obtain ⟨H2, e2⟩ : ∃ H2, H2 = upd (upd (upd (upd H1 y2 (.own x2)) x2 (.ins C y2 (personF a b c (.int 1)))) M2 (.lst [a, b, c, .int 1])) t2 (.tup [.ref x2, .ref M2]) := ⟨_, rfl⟩
    rw [← e2] at g2 t2' x2' M2' ⊢
    refine ⟨by show 2 ≤ sizeLine; decide, fun L hL => ?_⟩
    have gL := Grow.new (o := .lst [.ref t1, .ref t2]) hL
    have r1 : RowP C L a b (upd H2 L (.lst [.ref t1, .ref t2])) (.ref t1) := ⟨t1, x1, y1, M1, .int 0, .int 1, _, _, rfl, fresh_ne g2 t1' hL, fresh_ne g2 x1' hL, fresh_ne g2 M1' hL, gL _ _ (g2 _ _ t1'), gL _ _ (g2 _ _ x1'), gL _ _ (g2 _ _ M1'), .int 0, .int 1⟩
    have r2 : RowP C L a b (upd H2 L (.lst [.ref t1, .ref t2])) (.ref t2) := ⟨t2, x2, y2, M2, c, .int 1, _, _, rfl, ne_of_none t2' hL, ne_of_none x2' hL, ne_of_none M2' hL, gL _ _ t2', gL _ _ x2', gL _ _ M2', R.fc, .int 1⟩
    have hLn : H L = none := (g1.trans g2).free hL
    have gg := (g1.trans g2).trans gL
    have hL3 : upd H2 L (.lst [.ref t1, .ref t2]) L = some (.lst [.ref t1, .ref t2]) := upd_same
    obtain ⟨H3, e3⟩ : ∃ H3, H3 = upd H2 L (.lst [.ref t1, .ref t2]) := ⟨_, rfl⟩
    rw [← e3] at r1 r2 gg hL3 ⊢
    -- the third
    refine ⟨_, rfl, .inl ⟨rfl, _, SqL.of hL3⟩, _, rfl, _, rfl, _, rfl, rfl, rfl, fun x3 y3 hx3 hy3 n3 => made_ok R3 hx3 hy3 n3 ⟨rfl, ?_⟩⟩
    refine ⟨_, rfl, _, rfl, _, rfl, by show 4 ≤ sizeLine; decide, fun M3 hM3 => ⟨by show 2 ≤ sizeLine; decide, fun t3 ht3 => ?_⟩⟩
    obtain ⟨g3, t3', x3', M3'⟩ := row_new hx3 hy3 n3 hM3 ht3
    have qx3 : x3 ≠ L := (ne_of_none hL3 hx3).symm
    have qM3 : M3 ≠ L := (ne_of_none (made_grow (C := C) (fs := personF a b (.int 0) e) hx3 hy3 n3 _ _ hL3) hM3).symm
    have qt3 : t3 ≠ L := (ne_of_none ((Grow.new (o := .lst [a, b, .int 0, e]) hM3) _ _ (made_grow (C := C) (fs := personF a b (.int 0) e) hx3 hy3 n3 _ _ hL3)) ht3).symm
    obtain ⟨H4, e4⟩ : ∃ H4, H4 = upd (upd (upd (upd H3 y3 (.own x3)) x3 (.ins C y3 (personF a b (.int 0) e))) M3 (.lst [a, b, .int 0, e])) t3 (.tup [.ref x3, .ref M3]) := ⟨_, rfl⟩
    rw [← e4] at g3 t3' x3' M3' ⊢
    have hL4 := g3 _ _ hL3
    have r3 : RowP C L a b H4 (.ref t3) := ⟨t3, x3, y3, M3, .int 0, e, _, _, rfl, qt3, qx3, qM3, t3', x3', M3', .int 0, R.fe⟩
    refine ⟨L, _, _, rfl, rfl, hL4, by show 2 < sizeLine; decide, ?_⟩
    have r1 := (r1.grow g3).put (o := .lst [.ref t1, .ref t2, .ref t3])
    have r2 := (r2.grow g3).put (o := .lst [.ref t1, .ref t2, .ref t3])
    have r3 := r3.put (o := .lst [.ref t1, .ref t2, .ref t3])
    have gg := (gg.trans g3).put (o := .lst [.ref t1, .ref t2, .ref t3]) hLn
    have hL5 : upd H4 L (.lst [.ref t1, .ref t2, .ref t3]) L = some (.lst [.ref t1, .ref t2, .ref t3]) := upd_same
    obtain ⟨H5, e5⟩ : ∃ H5, H5 = upd H4 L (.lst [.ref t1, .ref t2, .ref t3]) := ⟨_, rfl⟩
    rw [← e5] at r1 r2 r3 gg hL5
    rw [show upd H4 L (.lst ([.ref t1, .ref t2] ++ [.ref t3])) = H5 from e5.symm]
    -- the fourth
    refine ⟨_, rfl, .inl ⟨rfl, _, SqL.of hL5⟩, _, rfl, _, rfl, _, rfl, _, rfl, rfl, rfl, fun x6 y6 hx6 hy6 n6 => made_ok R hx6 hy6 n6 ⟨rfl, ?_⟩⟩
    refine ⟨_, rfl, _, rfl, _, rfl, _, rfl, by show 4 ≤ sizeLine; decide, fun M6 hM6 => ⟨by show 2 ≤ sizeLine; decide, fun t6 ht6 => ?_⟩⟩
    obtain ⟨g6, t6', x6', M6'⟩ := row_new hx6 hy6 n6 hM6 ht6
    have qx6 : x6 ≠ L := (ne_of_none hL5 hx6).symm
    have qM6 : M6 ≠ L := (ne_of_none (made_grow (C := C) (fs := personF a b c e) hx6 hy6 n6 _ _ hL5) hM6).symm
    have qt6 : t6 ≠ L := (ne_of_none ((Grow.new (o := .lst [a, b, c, e]) hM6) _ _ (made_grow (C := C) (fs := personF a b c e) hx6 hy6 n6 _ _ hL5)) ht6).symm
    obtain ⟨H6, e6⟩ : ∃ H6, H6 = upd (upd (upd (upd H5 y6 (.own x6)) x6 (.ins C y6 (personF a b c e))) M6 (.lst [a, b, c, e])) t6 (.tup [.ref x6, .ref M6]) := ⟨_, rfl⟩
    rw [← e6] at g6 t6' x6' M6' ⊢
    have hL6 := g6 _ _ hL5
    have r6 : RowP C L a b H6 (.ref t6) := ⟨t6, x6, y6, M6, c, e, _, _, rfl, qt6, qx6, qM6, t6', x6', M6', R.fc, R.fe⟩
    refine ⟨L, _, _, rfl, rfl, hL6, by show 3 < sizeLine; decide, ?_⟩
    have r1 := (r1.grow g6).put (o := .lst [.ref t1, .ref t2, .ref t3, .ref t6])
    have r2 := (r2.grow g6).put (o := .lst [.ref t1, .ref t2, .ref t3, .ref t6])
    have r3 := (r3.grow g6).put (o := .lst [.ref t1, .ref t2, .ref t3, .ref t6])
    have r6 := r6.put (o := .lst [.ref t1, .ref t2, .ref t3, .ref t6])
    have gg := (gg.trans g6).put (o := .lst [.ref t1, .ref t2, .ref t3, .ref t6]) hLn
    have hL7 : upd H6 L (.lst [.ref t1, .ref t2, .ref t3, .ref t6]) L = some (.lst [.ref t1, .ref t2, .ref t3, .ref t6]) := upd_same
    obtain ⟨H7, e7⟩ : ∃ H7, H7 = upd H6 L (.lst [.ref t1, .ref t2, .ref t3, .ref t6]) := ⟨_, rfl⟩
    rw [← e7] at r1 r2 r3 r6 gg hL7
    rw [show upd H6 L (.lst ([.ref t1, .ref t2, .ref t3] ++ [.ref t6])) = H7 from e7.symm]
    have rows : ∀ v ∈ ([.ref t1, .ref t2, .ref t3, .ref t6] : List V), RowP C L a b H7 v := by
      intro v hv
      simp only [List.mem_cons, List.not_mem_nil, or_false] at hv
      rcases hv with rfl | rfl | rfl | rfl
      · exact r1
      · exact r2
      · exact r3
      · exact r6
    -- the numbers of each, beside what is due
    refine ⟨_, rfl, L, rfl, ⟨_, SqL.of hL7⟩, fun D hD => ?_⟩
    refine lc_it (walk_list (xs := [.ref t1, .ref t2, .ref t3, .ref t6])) (fun i H' => ∃ acc, H' D = some (.lst acc) ∧ acc.length = i ∧ Grow H7 H' ∧ ∀ v ∈ acc, PairP D a b H' v) ⟨[], upd_same, rfl, .new hD, fun v z => absurd z (by simp)⟩ (fun i H' _ ⟨_, _, _, p, _⟩ => p.sqL (SqL.of hL7)) ?_ ?_
    · rintro i y H8 H9 hi ⟨acc, hacc, hlen, g8, hp⟩ ⟨rfl, hy⟩
      obtain ⟨t, x, dx, M, c', e', dc', de', rfl, _, _, _, ht, hx, hM, fc', fe'⟩ := (rows y (List.mem_of_getElem? hy)).grow g8
      refine ⟨t, _, rfl, .inl (.inl ht), rfl, _, _, rfl, _, _, rfl, rfl, rfl, ?_⟩
      refine ⟨_, rfl, .inl ⟨x, dx, a, b, c', e', rfl, hx, fun N hN => ⟨_, rfl, by show 2 ≤ sizeLine; decide, fun U hU => ?_⟩⟩⟩
      have gN := Grow.new (o := .lst [a, b, c', e']) hN
      have gU := Grow.new (o := .tup [.ref N, .ref M]) hU
      have gNU := gN.trans gU
      have hD9 := gNU _ _ hacc
      have nM : M ≠ D := fun z => by
        have q : H7 M = none := by rw [z]; exact hD
        obtain ⟨t', x', dx', M', c2, e2, dc2, de2, ez, _, _, _, ht2, hx2, hM2, _⟩ := rows _ (List.mem_of_getElem? hy)
        cases ez
        have y1 := g8 _ _ ht2
        rw [ht] at y1
        cases y1
        rw [q] at hM2
        cases hM2
      have pn : PairP D a b (upd (upd H9 N (.lst [a, b, c', e'])) U (.tup [.ref N, .ref M])) (.ref U) := ⟨U, N, M, c', e', dc', de', rfl, (ne_of_none (gN _ _ hacc) hU).symm, (ne_of_none hacc hN).symm, nM, upd_same, gU _ _ upd_same, gNU _ _ hM, fc', fe'⟩
      refine ⟨acc, hD9, by rw [hlen]; exact Nat.lt_trans hi (by show 4 < sizeLine; decide), acc ++ [.ref U], upd_same, by rw [List.length_append, hlen]; rfl, (g8.trans gNU).put hD, fun v hv => ?_⟩
      rcases List.mem_append.mp hv with h | h
      · exact ((hp v h).grow gNU).put
      · rw [List.mem_singleton.mp h]
        exact pn.put
    · rintro H8 ⟨acc, hacc, hlen, g8, hp⟩
      exact k D acc H8 (gg.trans g8) hacc (by rw [hlen]; show 4 ≤ 10; decide) hp
end
end
end Aim

namespace Aim
open PySem PySem.Spec PyProof.Rows L2 RZ
open LamX (TabB)
section
variable {P : Program} {w : World} {K : PySem.W.Frag} {mg : Str → Option Value} {base : Heap} {TT : List (Addr × Str)}
open LamX (Tabs)
/-! ### a Person asked with drawn values -/
/-- what the class table says of the errors -/
structure ErrM (K : PySem.W.Frag) (AE CT CA : Addr) : Prop where
  xT : PySem.W.exmOne K (.ref CT) (.ref AE) = some true
  xA : PySem.W.exmOne K (.ref CA) (.ref AE) = some true
  iT : PySem.W.kitOne K (.ref CT) (.ref CT) = some true
  iA : PySem.W.kitOne K (.ref CA) (.ref CA) = some true
theorem pot_not_tab {n : Nat} {a : Addr} (ps : Array Value) : PotO n a ≠ .tbl ps := fun z => by
  unfold PotO at z
  cases z
theorem str_same (x : Str) : decide (V.str x = V.str x) = true := by simp
theorem wrong_good {da db dc d : PyData} (h : wrongD da db dc = some d) (ga : Good da) (gb : Good db) (gc : Good dc) : Good d := by
  unfold wrongD at h
  split at h
  · cases h
    exact ga
  · split at h
    · cases h
      exact gb
    · split at h
      · cases h
      · cases h
        exact gc
theorem tree_four {a b c e : V} {da db dc de : PyData} (fa : Fl a da) (fb : Fl b db) (fc : Fl c dc) (fe : Fl e de) : Tree 1 (.list [da, db, dc, de]) := by
  refine .lst (fun d hd => ?_) (by simp)
  simp only [List.mem_cons, List.not_mem_nil, or_false] at hd
  rcases hd with rfl | rfl | rfl | rfl
  · exact .leaf fa.flat
  · exact .leaf fb.flat
  · exact .leaf fc.flat
  · exact .leaf fe.flat
theorem four_dd {K : PySem.W.Frag} {H : Hp} {N : Addr} {a b c e : V} {da db dc de : PyData} (h : H N = some (.lst [a, b, c, e])) (fa : Fl a da) (fb : Fl b db) (fc : Fl c dc) (fe : Fl e de) : DD K H (.ref N) (.list [da, db, dc, de]) :=
  .lstOf h (.cons fa.dd (.cons fb.dd (.cons fc.dd (.cons fe.dd .nil))))
abbrev qualR : Str := (envOfC ("_law_right" : Str) (defScope (top 34)) 0 0 (.ref 0)).qual ++ "<lambda>"
section
variable {C f0 CT CA AE fI c Pt : Addr} {fd0 : FuncData} {stI : Stmt}
def spRight (TT : List (Addr × Str)) : Sp := fun vs H Q _ => ∃ (p : Addr) (n : Nat), vs = [.ref p] ∧ H p = some (PotO n p) ∧ n < 600000 ∧ Tabs TT H ∧ ∀ (m : Nat) (H' : Hp), Ext TT H H' → H' p = some (PotO m p) → m ≤ n + 14 → Q (.bl true) H'
theorem sc__law_right : FnScope ["_law_pot_here", "_law_caught_here", "_law_wrong_here", "_law_person", "_law_early", "_law_late", "_law_held", "_law_many", "_law_told", "_law_due"] ["_law_pot_here"] (defScope (top 34)) := ⟨rfl, rfl, rfl, by decide +kernel, rfl, by decide +kernel, by decide +kernel⟩
theorem ok_right (hT : TT = [(Pt, qualR)]) (TB : TabB base mg c Pt) (F : HasC K mg "_law_right" (top 34) c) (T : Blt mg) (W : PerT K mg C f0 fd0) (Z : ErrT P K mg stI fI AE CT CA) (M : ErrM K AE CT CA) (U : CauT K mg (top 24) AE)
    (FP : FnOk P w K mg base (L2.CX P w) 3 f0 fd0 pPs (spPerson K C CT CA)) (D__law_given : Df P w K mg base false 5 "_law_given" (spGiven K TT)) (D__law_wrong : Df P w K mg base false 3 "_law_wrong" (spWrong K)) (D__law_within : Df P w K mg base false 2 "_law_within" (spWithin K))
    (D__law_numbers : Df P w K mg base false 3 "_law_numbers" (spNumbers C)) (D__law_same : Df P w K mg base false 3 "_law_same" (spSame K 1)) (D__law_left_out : Df P w K mg base false 5 "_law_left_out" spLeft) : Df P w K mg base true 7 "_law_right" (spRight TT) := by
  have hmT : (Pt, qualR) ∈ TT := by rw [hT]; exact List.mem_singleton.mpr rfl
  have hu : ∀ p ∈ TT, p.1 = Pt → p.2 = qualR := fun p hp _ => by
    rw [hT] at hp
    rw [List.mem_singleton.mp hp]
  obtain ⟨mv5, hb5⟩ := W.b5
  refine df_okC F sc__law_right (fun vs H Q E h => ?_) (fun _ _ _ _ _ _ us hl => match us, hl with | [_], _ => rfl) (fun f A outer s H vs Q E hr hG h => ?_)
  · obtain ⟨_, _, rfl, _⟩ := h
    rfl
  · obtain ⟨p, n, rfl, hp, hn, ht, k⟩ := h
    refine ⟨_, (pss_cons (ps_asg (pe_df D__law_given hr (by first | decide | omega) (by first | exact hG | (intro z; cases z)) rfl passL (pa_cons (pv 0) pa_nil)) (pg_tup (n := 4) rfl (pgs_cons (pg_name (i := 4) sc__law_right.nd rfl (Or.inr rfl) (Or.inl rfl)) (pgs_cons (pg_name (i := 5) sc__law_right.nd rfl (Or.inr rfl) (Or.inl rfl)) (pgs_cons (pg_name (i := 6) sc__law_right.nd rfl (Or.inr rfl) (Or.inl rfl)) (pgs_cons (pg_name (i := 7) sc__law_right.nd rfl (Or.inr rfl) (Or.inl rfl)) pgs_nil))))))
      (C8.pss_cut (ps_set (i := 1) sc__law_right.nd rfl (Or.inl rfl) (pe_caught (k := 4) U rfl TB rfl hmT hu (hr.mono (by decide)) (LamX.lamS_by rfl) rfl (fun _ _ _ _ _ => rfl) (fun A outer s H E f c' hr' => pe_makeK W.mkc FP (hr'.mono (by decide)) rfl W.mgC hb5 (passes_call (takes_of rfl rfl rfl rfl) (fun _ _ _ _ h => h)) (pa_cons (pv 4) (pa_cons (pv 5) pa_nil)) (pk_cons (pv 6) (pk_cons (pv 7) pk_nil)))))
      (pss_cons (ps_set (i := 2) sc__law_right.nd rfl (Or.inl rfl) (pe_df D__law_wrong hr (by first | decide | omega) (by first | exact hG | (intro z; cases z)) rfl passL (pa_cons (pv 4) (pa_cons (pv 5) (pa_cons (pv 6) pa_nil)))))
      (pss_cons (ps_if (pt_cmpR (op_neE hr.units) (pv 2) (pe_lst pa_nil) (nomark _)) (pss_one (ps_ret (pe_and (pe_callB call_isX rfl T.n_isinstance boot_isinstance (pa_cons (pv 1) (pa_cons (pe_glob (v := .ref CT) rfl Z.m_BadTicks rfl) pa_nil))) (pe_one (pe_cmpR op_eq (pe_callB (call_repr (hG rfl) hr.units) rfl T.n_repr boot_repr (pa_cons (pe_xcv (pv 1)) pa_nil)) (pe_callB (call_repr (hG rfl) hr.units) rfl T.n_repr boot_repr (pa_cons (pe_ix ix_seq (pv 2) pe_int (fun _ _ => rfl)) pa_nil)) (nomark _)))))) pss_nil)
      (pss_cons (ps_if (pt_not (pt_val (pe_df D__law_within hr (by first | decide | omega) (by first | exact hG | (intro z; cases z)) rfl passL (pa_cons (pv 7) (pa_cons pe_int (pa_cons pe_int pa_nil)))))) (pss_one (ps_ret (pe_and (pe_callB call_isX rfl T.n_isinstance boot_isinstance (pa_cons (pv 1) (pa_cons (pe_glob (v := .ref CA) rfl Z.m_BadAhead rfl) pa_nil))) (pe_one (pe_cmpR op_eq (pe_callB (call_repr (hG rfl) hr.units) rfl T.n_repr boot_repr (pa_cons (pe_xcv (pv 1)) pa_nil)) (pe_callB (call_repr (hG rfl) hr.units) rfl T.n_repr boot_repr (pa_cons (pv 7) pa_nil)) (nomark _)))))) pss_nil)
      (pss_cons (ps_if (pt_cmp (pc_notN (pv 1))) (pss_one (ps_ret pe_bl)) pss_nil)
      (pss_cons (ps_set (i := 3) sc__law_right.nd rfl (Or.inl rfl) (pe_makeK W.mkc FP (hr.mono (by decide)) rfl W.mgC hb5 passL (pa_cons (pv 4) (pa_cons (pv 5) pa_nil)) (pk_cons (pv 6) (pk_cons (pv 7) pk_nil))))
      (pss_cons (ps_if (pt_not (pt_val (pe_df D__law_same hr (by first | decide | omega) (by first | exact hG | (intro z; cases z)) rfl passL (pa_cons (pe_df D__law_numbers hr (by first | decide | omega) (by first | exact hG | (intro z; cases z)) rfl passL (pa_cons (pv 3) pa_nil)) (pa_cons (pe_lst (pa_cons (pv 4) (pa_cons (pv 5) (pa_cons (pv 6) (pa_cons (pv 7) pa_nil))))) pa_nil))))) (pss_one (ps_ret pe_bl)) pss_nil)
      (pss_one (ps_ret (pe_callB (cr_all rfl) rfl T.n_all boot_all (pa_cons (pe_lc (own := [("_law_told", 8), ("_law_due", 9)]) rfl sc__law_right.nd (pi_list (pe_df D__law_left_out hr (by first | decide | omega) (by first | exact hG | (intro z; cases z)) rfl passL (pa_cons (pv 4) (pa_cons (pv 5) (pa_cons (pv 6) (pa_cons (pv 7) pa_nil)))))) (blkOk_by rfl) (fun _ _ _ _ _ => (show PG _ _ (gTup K 2 (gCons (gName 8) (gCons (gName 9) gNil))) from pg_tup (n := 2) rfl (pgs_cons (pg_name (i := 8) sc__law_right.nd rfl (Or.inl rfl) (Or.inr rfl)) (pgs_cons (pg_name (i := 9) sc__law_right.nd rfl (Or.inl rfl) (Or.inr rfl)) pgs_nil)))) (fun _ _ _ _ _ => pts_nil) (fun _ _ _ _ _ => (pe_df D__law_same hr (by first | decide | omega) (by first | exact hG | (intro z; cases z)) rfl passL (pa_cons (pv 8) (pa_cons (pv 9) pa_nil))))) pa_nil)))))))))))), ?_⟩
    refine ⟨_, rfl, .inl ⟨p, n, rfl, hp, by omega, fun V0 a b c e da db dc de m H1 hV ha hb hc he ga gb gc ge e1 hp1 hm1 => ?_⟩⟩
    refine ⟨V0, _, rfl, .inl (.inl hV), rfl, _, _, rfl, _, _, rfl, _, _, rfl, _, _, rfl, rfl, ?_⟩
    refine ⟨fun σ' H' => ∃ z, σ' = [some (.ref p), some z, none, none, some a, some b, some c, some e, none, none] ∧ Ext TT H H' ∧ Ext TT H1 H' ∧ H' p = some (PotO m p) ∧
      ((∃ (y dd : Addr) (d : PyData) (v : V), z = .ref y ∧ H' y = some (XcV (.ref CT) (some dd) y) ∧ H' dd = some (.xd [("value", v)]) ∧ wrongD da db dc = some d ∧ DD K H' v d) ∨
       (∃ y dd : Addr, z = .ref y ∧ H' y = some (XcV (.ref CA) (some dd) y) ∧ H' dd = some (.xd [("value", e)]) ∧ wrongD da db dc = none ∧ inD de 1 2 = false) ∨
       (z = .non ∧ wrongD da db dc = none ∧ inD de 1 2 = true)), ?_, ?_⟩
    · -- the lambda
      refine ⟨e1.2 ht, fun H2 x2 t2 => ?_⟩
      have e2 : Ext TT H1 H2 := .lam x2 t2
      have hp2 : H2 p = some (PotO m p) := x2 _ _ hp1 fun ps => pot_not_tab ps
      refine ⟨_, rfl, _, rfl, _, rfl, _, rfl, rfl, rfl, fun x dx hx hdx ne => ?_⟩
      have g := made_grow (C := C) (fs := []) hx hdx ne
      have e3 := e2.trans (g.ext (TT := TT))
      refine ⟨x, dx, a, b, c, e, da, db, dc, de, rfl, upd_same, ha.mono e3, hb.mono e3, hc.mono e3, he.mono e3, fun d v hw hv dd hdd => ⟨M.xT, fun y hy => ?_⟩, fun hw h2 dd hdd => ⟨M.xA, fun y hy => ?_⟩, fun hw h2 => ⟨rfl, ?_⟩⟩
      · have g2 := Grow.new (o := .xd [("value", v)]) hdd
        have g3 := Grow.new (o := XcV (.ref CT) (some dd) y) hy
        have g4 := g2.trans g3
        exact ⟨_, rfl, (e1.trans e3).trans g4.ext, e3.trans g4.ext, g4 _ _ (g _ _ hp2), .inl ⟨y, dd, d, v, rfl, upd_same, g3 _ _ upd_same, hw, hv.grow g4⟩⟩
      · have g2 := Grow.new (o := .xd [("value", e)]) hdd
        have g3 := Grow.new (o := XcV (.ref CA) (some dd) y) hy
        have g4 := g2.trans g3
        exact ⟨_, rfl, (e1.trans e3).trans g4.ext, e3.trans g4.ext, g4 _ _ (g _ _ hp2), .inr (.inl ⟨y, dd, rfl, upd_same, g3 _ _ upd_same, hw, h2⟩)⟩
      · rw [upd_upd]
        have g := made_grow (C := C) (fs := personF a b c e) hx hdx ne
        exact ⟨_, rfl, (e1.trans e2).trans g.ext, e2.trans g.ext, g _ _ hp2, .inr (.inr ⟨rfl, hw, h2⟩)⟩
    · rintro σ' H2 ⟨z, rfl, e2, e3, hp2, hz⟩
      have ha2 := ha.mono e3
      have hb2 := hb.mono e3
      have hc2 := hc.mono e3
      have he2 := he.mono e3
      refine ⟨_, rfl, _, rfl, _, rfl, .inl ⟨a, b, c, da, db, dc, rfl, ha2, hb2, hc2, fun L xs hL hno hsome => ?_⟩⟩
      have gL := Grow.new (o := .lst xs) hL
      refine ⟨_, rfl, by show 0 ≤ sizeLine; decide, fun q hq => ⟨L, q, xs, rfl, rfl, .inl (.inl (Grow.new (o := .lst []) hq _ _ upd_same)), .inl (.inl upd_same), _, rfl, ?_⟩⟩
      have g := gL.trans (Grow.new (o := .lst []) hq)
      have hp3 := g _ _ hp2
      have fin := fun (H' : Hp) (g' : Grow (upd (upd H2 L (.lst xs)) q (.lst [])) H') => k m H' ((e2.trans g.ext).trans g'.ext) (g' _ _ hp3) hm1
      cases hw : wrongD da db dc with
      | some d =>
        obtain ⟨v, rfl, hv⟩ := hsome d hw
        rcases hz with ⟨y, dd, d', u, rfl, hy, hdd, hw', hu⟩ | ⟨_, _, _, _, _, hw', _⟩ | ⟨_, hw', _⟩
        · rw [hw] at hw'
          cases hw'
          have gd := (wrong_good hw ga gb gc).all
          have hy := g _ _ hy
          have hdd := g _ _ hdd
          have hL3 := Grow.new (o := .lst []) hq _ _ (upd_same (H := H2) (a := L) (o := .lst [v]))
          refine ⟨_, rfl, y, CT, fI, AE, some dd, .ref CT, .ref CT, true, rfl, hy, Z.c_BadTicks, ⟨dd, _, rfl, hdd⟩, .own CT, M.iT, _, rfl, ?_⟩
          refine ⟨_, rfl, y, CT, dd, fI, AE, u, rfl, hy, Z.c_BadTicks, hdd, u, d, rfl, hu.grow g, gd.1, gd.2.1, gd.2.2.1, gd.2.2.2, ?_⟩
          refine ⟨_, rfl, .inl ⟨L, [v], 0, v, rfl, rfl, SqL.of hL3, rfl, v, d, rfl, hv.grow g, gd.1, gd.2.1, gd.2.2.1, gd.2.2.2, rfl, ?_⟩⟩
          rw [str_same]
          exact fin _ (.refl _)
        · rw [hw] at hw'
          cases hw'
        · rw [hw] at hw'
          cases hw'
      | none =>
        obtain rfl := hno hw
        have he3 := he2.grow g
        refine ⟨_, rfl, .inl ⟨e, de, 1, 2, rfl, he3, _, rfl, ?_⟩⟩
        cases h2 : inD de 1 2 with
        | false =>
          rcases hz with ⟨_, _, _, _, _, _, _, hw', _⟩ | ⟨y, dd, rfl, hy, hdd, _, _⟩ | ⟨_, _, hw'⟩
          · rw [hw] at hw'
            cases hw'
          · have gd := ge.all
            have hy := g _ _ hy
            have hdd := g _ _ hdd
            refine ⟨_, rfl, y, CA, fI, AE, some dd, .ref CA, .ref CA, true, rfl, hy, Z.c_BadAhead, ⟨dd, _, rfl, hdd⟩, .own CA, M.iA, _, rfl, ?_⟩
            refine ⟨_, rfl, y, CA, dd, fI, AE, e, rfl, hy, Z.c_BadAhead, hdd, e, de, rfl, he3, gd.1, gd.2.1, gd.2.2.1, gd.2.2.2, ?_⟩
            refine ⟨_, rfl, e, de, rfl, he3, gd.1, gd.2.1, gd.2.2.1, gd.2.2.2, rfl, ?_⟩
            rw [str_same]
            exact fin _ (.refl _)
          · rw [h2] at hw'
            cases hw'
        | true =>
          rcases hz with ⟨_, _, _, _, _, _, _, hw', _⟩ | ⟨_, _, _, _, _, _, hw'⟩ | ⟨rfl, _, _⟩
          · rw [hw] at hw'
            cases hw'
          · rw [h2] at hw'
            cases hw'
          · obtain ⟨fa, fb, fc⟩ := right_of ha2 hb2 hc2 hw
            have R : RightP a b c e da db dc de := ⟨fa, fb, fc, fl_of he3 h2, hw, h2⟩
            refine ⟨_, rfl, _, rfl, ?_⟩
            refine ⟨_, rfl, _, rfl, _, rfl, _, rfl, rfl, rfl, fun x dx hx hdx ne => made_ok R hx hdx ne ⟨rfl, ?_⟩⟩
            have g3 := made_grow (C := C) (fs := personF a b c e) hx hdx ne
            refine ⟨_, rfl, .inl ⟨x, dx, a, b, c, e, rfl, upd_same, fun N hN => ⟨_, rfl, _, rfl, _, rfl, _, rfl, by show 4 ≤ sizeLine; decide, fun M4 hM4 => ?_⟩⟩⟩
            have g4 := Grow.new (o := .lst [a, b, c, e]) hN
            have g5 := Grow.new (o := .lst [a, b, c, e]) hM4
            refine .inl ⟨.ref N, .ref M4, _, rfl, four_dd (g5 _ _ upd_same) R.fa R.fb R.fc R.fe, four_dd upd_same R.fa R.fb R.fc R.fe, tree_four R.fa R.fb R.fc R.fe, fun H5 g6 => ⟨_, rfl, ?_⟩⟩
            have g7 := (g3.trans (g4.trans g5)).trans g6
            refine ⟨_, rfl, _, rfl, _, rfl, _, rfl, .inl ⟨a, b, c, e, da, db, dc, de, rfl, R, fun D acc H6 g8 hD hlen hp => ⟨D, rfl, ⟨_, SqL.of hD⟩, fun B hB => ?_⟩⟩⟩
            refine lc_it (walk_list (xs := acc)) (fun i H' => Grow H6 H' ∧ H' B = some (.lst ((List.replicate i true).map V.bl))) ⟨.new hB, upd_same⟩ (fun i H' _ p => p.1.sqL (SqL.of hD)) ?_ ?_
            · rintro i y H8 H9 hi ⟨g9, hB8⟩ ⟨rfl, hy⟩
              obtain ⟨U2, N2, M2, c', e', dc', de', rfl, _, _, _, hU2, hN2, hM2, fc', fe'⟩ := (hp y (List.mem_of_getElem? hy)).grow g9
              refine ⟨U2, _, rfl, .inl (.inl hU2), rfl, _, _, rfl, _, _, rfl, rfl, rfl, ?_⟩
              refine ⟨_, rfl, _, rfl, .inl ⟨.ref N2, .ref M2, _, rfl, four_dd hN2 R.fa R.fb fc' fe', four_dd hM2 R.fa R.fb fc' fe', tree_four R.fa R.fb fc' fe', fun H10 g10 => ?_⟩⟩
              have hB10 := g10 _ _ hB8
              refine ⟨_, hB10, ?_, (g9.trans g10).put hB, ?_⟩
              · rw [List.length_map, List.length_replicate]
                exact Nat.lt_of_lt_of_le (Nat.lt_of_lt_of_le hi hlen) (by decide)
              · rw [upd_same, List.replicate_succ', List.map_append]
                rfl
            · rintro H8 ⟨g9, hB8⟩
              refine ⟨B, _, rfl, SqL.of hB8, ?_⟩
              rw [all_true]
              exact fin _ ((g7.trans g8).trans g9)
end
end
end Aim

namespace Aim
open PySem PySem.Spec PyProof.Rows L2 RZ
open LamX (TabB)
section
variable {P : Program} {w : World} {K : PySem.W.Frag} {mg : Str → Option Value} {base : Heap} {TT : List (Addr × Str)}
open LamX (Tabs)
/-! ### the law -/
section
variable {C f0 CT CA AE fI c Pt : Addr} {fd0 : FuncData} {stI : Stmt}
def spLaw (K : PySem.W.Frag) (TT : List (Addr × Str)) : Sp := fun vs H Q _ => ∃ (a : Addr) (ns : List Int), vs = [.ref a] ∧ SqL K H a (ns.map V.int) ∧ ns.length ≤ 63 ∧ (∀ z ∈ ns, Builtin.Int.intBits z ≤ 1048576) ∧ Tabs TT H ∧ ∀ H', Q (.bl true) H'
theorem sc_law : FnScope ["_law_script", "_law_place", "_law_pot_here", "_law_turn"] ["_law_script"] (defScope (top 35)) := ⟨rfl, rfl, rfl, by decide +kernel, rfl, by decide +kernel, by decide +kernel⟩
theorem rn_law {f : Addr} {fd : FuncData} (F : L2.Fun K "law" "law" (top 35) f fd) (T : Blt mg) (D__law_cells : Df P w K mg base false 1 "_law_cells" (spCells K)) (D__law_pot : Df P w K mg base false 1 "_law_pot" (spPot K)) (D__law_right : Df P w K mg base true 7 "_law_right" (spRight TT)) :
    Rn P w K mg base true 8 f fd ["_law_script"] (spLaw K TT) := by
  refine rn_ok F sc_law (fun vs H Q E h => ?_) (fun cdv A outer s H vs Q E hr hG h => ?_)
  · obtain ⟨_, _, rfl, _⟩ := h
    rfl
  · obtain ⟨a, ns, rfl, hs, hl, hb, ht, k⟩ := h
    refine ⟨_, (pss_cons (ps_for PassesOwn.never rfl (pi_list (pe_df D__law_cells hr (by first | decide | omega) (by first | exact hG | (intro z; cases z)) rfl passL (pa_cons (pv 0) (pa_cons pe_int pa_nil)))) (pg_name (i := 1) sc_law.nd rfl (Or.inl rfl) (Or.inl rfl)) (pss_cons (ps_set (i := 2) sc_law.nd rfl (Or.inr rfl) (pe_df D__law_pot hr (by first | decide | omega) (by first | exact hG | (intro z; cases z)) rfl passL (pa_cons (pv 0) (pa_cons (pv 1) pa_nil))))
      (pss_one (ps_if (pt_not (pt_val (pe_callB (cr_all rfl) rfl T.n_all boot_all (pa_cons (pe_lc (own := [("_law_turn", 3)]) rfl sc_law.nd (pi_range1 rfl T.n_range (pa_cons pe_int pa_nil)) (blkOk_by rfl) (fun _ _ _ _ _ => (pg_name (i := 3) sc_law.nd rfl (Or.inl rfl) (Or.inr rfl))) (fun _ _ _ _ _ => pts_nil) (fun _ _ _ _ _ => (pe_df D__law_right hr (by first | decide | omega) (by first | exact hG | (intro z; cases z)) rfl passL (pa_cons (pv 2) pa_nil)))) pa_nil)))) (pss_one (ps_ret pe_bl)) pss_nil))))
      (pss_one (ps_ret pe_bl))), ?_⟩
    refine ⟨_, rfl, .inl ⟨a, ns, 3, rfl, hs, hl, by decide, fun L xs hL hx hxl => ⟨L, rfl, ⟨xs, SqL.of upd_same⟩, ?_⟩⟩⟩
    have e0 : Ext TT H (upd H L (.lst xs)) := .new hL
    have hL0 : upd H L (.lst xs) L = some (.lst xs) := upd_same
    refine for_it (walk_list (xs := xs)) (fun i σ H' => ∃ z1 z2 z3, σ = [some (.ref a), z1, z2, z3] ∧ Ext TT H H' ∧ Ext TT (upd H L (.lst xs)) H') ⟨none, none, none, rfl, e0, .refl _⟩ (fun i σ H' _ ⟨_, _, _, _, _, p⟩ => SqL.of (p.lst hL0)) ?_ ?_
    · rintro i x σ H9 H1 hi ⟨z1, z2, z3, rfl, e1, e2⟩ ⟨rfl, hxi⟩
      obtain ⟨j, rfl, j0, j1⟩ := hx x (List.mem_of_getElem? hxi)
      refine ⟨_, rfl, _, rfl, .inl ⟨a, ns, j, rfl, e1.sqL hs, j0, j1, hb, hl, fun p hp => ?_⟩⟩
      have gp := Grow.new (o := PotO 0 p) hp
      refine ⟨8, rfl, by decide, by decide, fun B hB => ?_⟩
      have gB := Grow.new (o := .lst []) hB
      have nB : p ≠ B := ne_of_none upd_same hB
      have nB2 := upd_none hB
      refine lc_it (walk_range (lo := 0) (n := Int.toNat 8)) (fun i H' => ∃ m, m ≤ 14 * i ∧ H' p = some (PotO m p) ∧ Ext TT H1 H' ∧ H' B = some (.lst ((List.replicate i true).map V.bl))) ⟨0, by omega, gB _ _ upd_same, (gp.trans gB).ext, upd_same⟩ (fun _ _ _ _ => trivial) ?_ ?_
      · rintro i x H3 H4 hi ⟨m, hm, hp3, e3, hB3⟩ ⟨rfl, rfl⟩
        have hi : i < 8 := hi
        refine ⟨rfl, ?_⟩
        refine ⟨_, rfl, .inl ⟨p, m, rfl, hp3, by omega, (e1.trans e3).2 ht, fun m' H5 e5 hp5 hm5 => ?_⟩⟩
        have hB5 := e5.lst hB3
        refine ⟨_, hB5, by rw [List.length_map, List.length_replicate]; exact Nat.lt_trans hi (by decide), m', by omega, by rw [upd_ne nB]; exact hp5, (e3.trans e5).put nB2 hB5, ?_⟩
        rw [upd_same, List.replicate_succ', List.map_append]
        rfl
      · rintro H3 ⟨m, hm, hp3, e3, hB3⟩
        refine ⟨B, _, rfl, SqL.of hB3, _, rfl, ?_⟩
        rw [all_true]
        exact ⟨_, _, _, rfl, e1.trans e3, e2.trans e3⟩
    · rintro σ H1 ⟨z1, z2, z3, rfl, e1, e2⟩
      exact k H1
end
end
end Aim

namespace Aim
open PySem PySem.Spec PyProof.Rows L2 RZ
open LamX (TabB)
open LamX (Tabs)
theorem fin {l : PySem.W.OpenLaw} {w : World} {K : PySem.W.Frag} {h : Heap} {mg : Str → Option Value} {fa : Addr} {q : Program} (X : K.In h) (G : h.Ns mainGlobals mg) (hfa : mg "law" = some (.ref fa))
    (tabs : ∀ (x : Str) (d : DefRec) (c P : Addr), (recsOf q).find? (fun e => e.name == x) = some d → PySem.W.tabIn K x = some (c, P) → PySem.W.CodeHd h c P ∧ h.get? P = some tab0)
    (q_is_integer : Has K mg "is_integer" (top 6)) (q_is_from : Has K mg "is_from" (top 7)) (q__law_pot : Has K mg "_law_pot" (top 20)) (q__law_take : Has K mg "_law_take" (top 21)) (q__law_of : Has K mg "_law_of" (top 22)) (q__law_cells : Has K mg "_law_cells" (top 23)) (q__law_caught : Has K mg "_law_caught" (top 24)) (q__law_same : Has K mg "_law_same" (top 25)) (q__law_is : Has K mg "_law_is" (top 26)) (q__law_odd : Has K mg "_law_odd" (top 27)) (q__law_number : Has K mg "_law_number" (top 28)) (q__law_given : Has K mg "_law_given" (top 29)) (q__law_within : Has K mg "_law_within" (top 30)) (q__law_wrong : Has K mg "_law_wrong" (top 31)) (q__law_numbers : Has K mg "_law_numbers" (top 32)) (q__law_left_out : Has K mg "_law_left_out" (top 33))
    {t6 t2 : Tok} {fL c Pt : Addr} {dR : DefRec} {ocL dcL pmL ctL kVL cdL : Value} {odL anL : Option Addr} {slL : Array (Option Value)} {fR : Addr} {ocR dcR pmR ctR kVR : Value} {odR anR : Option Addr} {slR : Array (Option Value)} {ccR : Value} {cddR : Option Addr} {vsR : Array Value} {csR : Array (Option Value)} {AE CT CA C fI cda cc : Addr} {ocI kVI docI pmI ctI cclI clI : Value} {odI anI cddI cldI : Option Addr} {oslI ccsI cslI : Array (Option Value)} {vsI : Array Value} {file : Str} {tf : Tok} {cdD : ClassData} {nmT qnT : Str} {NT : Addr} {bsT bmT : List Value} {snT subT abT colT ddT k0T k1T k2T k3T k5T} {nmA qnA : Str} {NA : Addr} {bsA bmA : List Value} {snA subA abA colA ddA k0A k1A k2A k3A k5A} {fP DP p1 p2 p3 p4 g1 g2 g3 g4 : Addr} {u1 u2 : Tok} {ocP dcP pmP ctP cdP : Value} {odP anP : Option Addr} {slP : Array (Option Value)} {r1 : List Value} {oc1 dc1 pm1 ct1 kV1 cd1 : Value} {od1 an1 : Option Addr} {sl1 : Array (Option Value)} {r2 : List Value} {oc2 dc2 pm2 ct2 kV2 cd2 : Value} {od2 an2 : Option Addr} {sl2 : Array (Option Value)} {r3 : List Value} {oc3 dc3 pm3 ct3 kV3 cd3 : Value} {od3 an3 : Option Addr} {sl3 : Array (Option Value)} {r4 : List Value} {oc4 dc4 pm4 ct4 kV4 cd4 : Value} {od4 an4 : Option Addr} {sl4 : Array (Option Value)}
    (z_len : PySem.W.nsIn K mainGlobals "len" = some none)
    (z_int : PySem.W.nsIn K mainGlobals "int" = some none)
    (z_abs : PySem.W.nsIn K mainGlobals "abs" = some none)
    (z_isinstance : PySem.W.nsIn K mainGlobals "isinstance" = some none)
    (z_bool : PySem.W.nsIn K mainGlobals "bool" = some none)
    (z_str : PySem.W.nsIn K mainGlobals "str" = some none)
    (z_list : PySem.W.nsIn K mainGlobals "list" = some none)
    (z_tuple : PySem.W.nsIn K mainGlobals "tuple" = some none)
    (z_range : PySem.W.nsIn K mainGlobals "range" = some none)
    (z_max : PySem.W.nsIn K mainGlobals "max" = some none)
    (z_min : PySem.W.nsIn K mainGlobals "min" = some none)
    (z_all : PySem.W.nsIn K mainGlobals "all" = some none)
    (z_any : PySem.W.nsIn K mainGlobals "any" = some none)
    (z_zip : PySem.W.nsIn K mainGlobals "zip" = some none)
    (z_repr : PySem.W.nsIn K mainGlobals "repr" = some none)
    (z_super : PySem.W.nsIn K mainGlobals "super" = some none)
    (z_sorted : PySem.W.nsIn K mainGlobals "sorted" = some none)
    (z_enumerate : PySem.W.nsIn K mainGlobals "enumerate" = some none)
    (z_dict : PySem.W.nsIn K mainGlobals "dict" = some none)
    (z_set : PySem.W.nsIn K mainGlobals "set" = some none)
    (z_bytes : PySem.W.nsIn K mainGlobals "bytes" = some none)
    (z_sum : PySem.W.nsIn K mainGlobals "sum" = some none)
    (gMT : PySem.W.nsIn K mainGlobals "MOST_TICKS" = some (some (.int 6 t6)))
    (gMA : PySem.W.nsIn K mainGlobals "MOST_AHEAD" = some (some (.int 2 t2)))
    (aL : PySem.W.nsIn K mainGlobals "law" = some (some (.ref fL)))
    (lL : K.lookup fL = some ⟨ocL, odL, .func (PySem.W.fnOf "law" "law" (defArgs (top 35)) (defBody (top 35)) (defScope (top 35)) .none kVL dcL pmL anL cdL ctL), slL⟩)
    (cL : PySem.W.codeIn K cdL "law" = true)
    (kL : PySem.W.keepIn K (.ref fL) = true)
    (rR : (recsOf q).find? (fun e => e.name == ("_law_right" : Str)) = some dR)
    (aR : PySem.W.nsIn K mainGlobals "_law_right" = some (some (.ref fR)))
    (lR : K.lookup fR = some ⟨ocR, odR, .func (PySem.W.fnOf "_law_right" "_law_right" (defArgs (top 34)) (defBody (top 34)) (defScope (top 34)) .none kVR dcR pmR anR (.ref c) ctR), slR⟩)
    (cR : PySem.W.codeIn K (.ref c) "_law_right" = true)
    (kR : PySem.W.keepIn K (.ref fR) = true)
    (lcR : K.lookup c = some ⟨ccR, cddR, .fields vsR, csR⟩)
    (e11 : (vsR[11]? : Option Value) = some (.ref Pt))
    (nP : K.lookup Pt = none)
    (m_AE : PySem.W.nsIn K mainGlobals "AimError" = some (some (.ref AE)))
    (m_CT : PySem.W.nsIn K mainGlobals "BadTicks" = some (some (.ref CT)))
    (m_CA : PySem.W.nsIn K mainGlobals "BadAhead" = some (some (.ref CA)))
    (m_C : PySem.W.nsIn K mainGlobals "Person" = some (some (.ref C)))
    (iniCT : PySem.W.findIn K (.ref CT) "__init__" = some (some (.ref fI)))
    (lI : K.lookup fI = some ⟨ocI, odI, .func (PySem.W.fnX "__init__" "AimError.__init__" (defArgs (inClass (top 1) 0)) (defBody (inClass (top 1) 0)) (defScope (inClass (top 1) 0)) [("__class__", cc)] .none kVI docI pmI anI (.ref cda) ctI), oslI⟩)
    (cI : PySem.W.codeIn K (.ref cda) "AimError.__init__" = true)
    (lcI : K.lookup cda = some ⟨cclI, cddI, .fields vsI, ccsI⟩)
    (e1I : vsI[2]? = some (.str file tf))
    (e2I : ((l.prog.main.file : Str) == file) = true)
    (lccI : K.lookup cc = some ⟨clI, cldI, .cell (some (.ref AE)), cslI⟩)
    (hDI : PySem.W.clsIn K AE = some cdD)
    (tII : PySem.W.typeIn K (.ref fI) = some (.type "function"))
    (topI : (l.prog.main.scope.names.lookup ("super" : Str)).isSome = false)
    (thI : PySem.W.nsIn K cStatics "thirdparty.any" = some none)
    (lcT : K.lookup CT = some (excClassObj nmT qnT CT NT bsT bmT true snT subT abT colT ddT k0T k1T k2T k3T k5T "ValueError.__new__"))
    (bmT : PySem.HandSPX.refsVE bmT = true)
    (saT : PySem.W.findIn K (.ref CT) "__setattr__" = some (some (.builtin "object.__setattr__")))
    (exT : PySem.W.subIn K (.ref CT) (.type "BaseException") = some true)
    (tyT : PySem.W.typeIn K (.ref CT) = some (.type "type"))
    (kcT : PySem.W.keepIn K (.ref CT) = true)
    (gaT : PySem.W.findIn K (.ref CT) "__getattribute__" = some (some (.builtin "BaseException.__getattribute__")))
    (ggT : PySem.W.findIn K (.ref CT) "__getattr__" = some none)
    (hdT : PySem.W.hasDictIn K CT = true)
    (sbT : PySem.W.mroIn K CT (.ref AE) = some true)
    (suT : PySem.W.ks_superIn K CT AE "__init__" = some (some (.builtin "ValueError.__init__")))
    (veT : PySem.W.subIn K (.ref CT) (.type "ValueError") = some true)
    (nvT : PySem.W.findIn K (.ref CT) "value" = some none)
    (inT : PySem.W.findIn K (.ref CT) "__init__" = some (some (.ref fI)))
    (owT : PySem.W.findIn K (.ref CT) "__class__" = some (some (.builtin "object.__class__")))
    (obT : PySem.W.mroIn K CT (.type "object") = some true)
    (xT : PySem.W.exmOne K (.ref CT) (.ref AE) = some true)
    (iT : PySem.W.kitOne K (.ref CT) (.ref CT) = some true)
    (lcA : K.lookup CA = some (excClassObj nmA qnA CA NA bsA bmA true snA subA abA colA ddA k0A k1A k2A k3A k5A "ValueError.__new__"))
    (bmA : PySem.HandSPX.refsVE bmA = true)
    (saA : PySem.W.findIn K (.ref CA) "__setattr__" = some (some (.builtin "object.__setattr__")))
    (exA : PySem.W.subIn K (.ref CA) (.type "BaseException") = some true)
    (tyA : PySem.W.typeIn K (.ref CA) = some (.type "type"))
    (kcA : PySem.W.keepIn K (.ref CA) = true)
    (gaA : PySem.W.findIn K (.ref CA) "__getattribute__" = some (some (.builtin "BaseException.__getattribute__")))
    (ggA : PySem.W.findIn K (.ref CA) "__getattr__" = some none)
    (hdA : PySem.W.hasDictIn K CA = true)
    (sbA : PySem.W.mroIn K CA (.ref AE) = some true)
    (suA : PySem.W.ks_superIn K CA AE "__init__" = some (some (.builtin "ValueError.__init__")))
    (veA : PySem.W.subIn K (.ref CA) (.type "ValueError") = some true)
    (nvA : PySem.W.findIn K (.ref CA) "value" = some none)
    (inA : PySem.W.findIn K (.ref CA) "__init__" = some (some (.ref fI)))
    (owA : PySem.W.findIn K (.ref CA) "__class__" = some (some (.builtin "object.__class__")))
    (obA : PySem.W.mroIn K CA (.type "object") = some true)
    (xA : PySem.W.exmOne K (.ref CA) (.ref AE) = some true)
    (iA : PySem.W.kitOne K (.ref CA) (.ref CA) = some true)
    (gtO : PySem.W.specialIn K (.builtin "object.__class__") "__get__" = some (some (.builtin "getset_descriptor.__get__")))
    (tkO : PySem.W.takesIn K (.builtin "object.__class__") = some true)
    (aP : PySem.W.findIn K (.ref C) "__init__" = some (some (.ref fP)))
    (iP : PySem.W.isFn K (.ref fP) = true)
    (lP : K.lookup fP = some ⟨ocP, odP, .func (PySem.W.fnOf "__init__" "Person.__init__" (defArgs sPI) (defBody sPI) (defScope sPI) .none (.ref DP) dcP pmP anP cdP ctP), slP⟩)
    (cP : PySem.W.codeIn K cdP "Person.__init__" = true)
    (kP : PySem.W.keepIn K (.ref fP) = true)
    (d1 : PySem.W.nsIn K DP "hold" = some (some (.int 0 u1)))
    (d2 : PySem.W.nsIn K DP "ahead" = some (some (.int 1 u2)))
    (pg : PySem.W.plainGet K C Str.empty = true)
    (hdP : PySem.W.hasDictIn K C = true)
    (po : PySem.W.plainOver K C = true)
    (saP : PySem.W.findIn K (.ref C) "__setattr__" = some (some (.builtin "object.__setattr__")))
    (mkP : PySem.W.makesIn K C = true)
    (kcP : PySem.W.keepIn K (.ref C) = true)
    (n1 : PySem.W.findIn K (.ref C) "own_fast" = some none)
    (n2 : PySem.W.findIn K (.ref C) "own_slow" = some none)
    (n3 : PySem.W.findIn K (.ref C) "own_hold" = some none)
    (n4 : PySem.W.findIn K (.ref C) "own_ahead" = some none)
    (pa1 : PySem.W.findIn K (.ref C) "fast" = some (some (.ref p1)))
    (pt1 : PySem.W.specialIn K (.ref p1) "__get__" = some (some (.builtin "property.__get__")))
    (pk1 : PySem.W.takesIn K (.ref p1) = some true)
    (pr1 : PySem.W.recIn K p1 "property" = some (.ref g1 :: r1))
    (l1 : K.lookup g1 = some ⟨oc1, od1, .func (PySem.W.fnOf "fast" "Person.fast" (defArgs (inClass (top 18) 1)) (defBody (inClass (top 18) 1)) (defScope (inClass (top 18) 1)) .none kV1 dc1 pm1 an1 cd1 ct1), sl1⟩)
    (c1 : PySem.W.codeIn K cd1 "Person.fast" = true)
    (k1 : PySem.W.keepIn K (.ref g1) = true)
    (pa2 : PySem.W.findIn K (.ref C) "slow" = some (some (.ref p2)))
    (pt2 : PySem.W.specialIn K (.ref p2) "__get__" = some (some (.builtin "property.__get__")))
    (pk2 : PySem.W.takesIn K (.ref p2) = some true)
    (pr2 : PySem.W.recIn K p2 "property" = some (.ref g2 :: r2))
    (l2 : K.lookup g2 = some ⟨oc2, od2, .func (PySem.W.fnOf "slow" "Person.slow" (defArgs (inClass (top 18) 2)) (defBody (inClass (top 18) 2)) (defScope (inClass (top 18) 2)) .none kV2 dc2 pm2 an2 cd2 ct2), sl2⟩)
    (c2 : PySem.W.codeIn K cd2 "Person.slow" = true)
    (k2 : PySem.W.keepIn K (.ref g2) = true)
    (pa3 : PySem.W.findIn K (.ref C) "hold" = some (some (.ref p3)))
    (pt3 : PySem.W.specialIn K (.ref p3) "__get__" = some (some (.builtin "property.__get__")))
    (pk3 : PySem.W.takesIn K (.ref p3) = some true)
    (pr3 : PySem.W.recIn K p3 "property" = some (.ref g3 :: r3))
    (l3 : K.lookup g3 = some ⟨oc3, od3, .func (PySem.W.fnOf "hold" "Person.hold" (defArgs (inClass (top 18) 3)) (defBody (inClass (top 18) 3)) (defScope (inClass (top 18) 3)) .none kV3 dc3 pm3 an3 cd3 ct3), sl3⟩)
    (c3 : PySem.W.codeIn K cd3 "Person.hold" = true)
    (k3 : PySem.W.keepIn K (.ref g3) = true)
    (pa4 : PySem.W.findIn K (.ref C) "ahead" = some (some (.ref p4)))
    (pt4 : PySem.W.specialIn K (.ref p4) "__get__" = some (some (.builtin "property.__get__")))
    (pk4 : PySem.W.takesIn K (.ref p4) = some true)
    (pr4 : PySem.W.recIn K p4 "property" = some (.ref g4 :: r4))
    (l4 : K.lookup g4 = some ⟨oc4, od4, .func (PySem.W.fnOf "ahead" "Person.ahead" (defArgs (inClass (top 18) 4)) (defBody (inClass (top 18) 4)) (defScope (inClass (top 18) 4)) .none kV4 dc4 pm4 an4 cd4 ct4), sl4⟩)
    (c4 : PySem.W.codeIn K cd4 "Person.ahead" = true)
    (k4 : PySem.W.keepIn K (.ref g4) = true) :
    AtLaw l w K 8 63 "_law_script" mg fa h := by
  have e := hfa.symm.trans (PySem.W.mg_of X G aL)
  cases e
  have T : Blt mg := ⟨PySem.W.mg_none_of X G z_len, PySem.W.mg_none_of X G z_int, PySem.W.mg_none_of X G z_abs, PySem.W.mg_none_of X G z_isinstance, PySem.W.mg_none_of X G z_bool, PySem.W.mg_none_of X G z_str, PySem.W.mg_none_of X G z_list, PySem.W.mg_none_of X G z_tuple, PySem.W.mg_none_of X G z_range, PySem.W.mg_none_of X G z_max, PySem.W.mg_none_of X G z_min, PySem.W.mg_none_of X G z_all, PySem.W.mg_none_of X G z_any, PySem.W.mg_none_of X G z_zip, PySem.W.mg_none_of X G z_repr, PySem.W.mg_none_of X G z_super, PySem.W.mg_none_of X G z_sorted, PySem.W.mg_none_of X G z_enumerate, PySem.W.mg_none_of X G z_dict, PySem.W.mg_none_of X G z_set, PySem.W.mg_none_of X G z_bytes, PySem.W.mg_none_of X G z_sum⟩
  have Y : Glb mg := ⟨⟨_, PySem.W.mg_of X G gMT, _, rfl⟩, ⟨_, PySem.W.mg_of X G gMA, _, rfl⟩⟩
  have Z : ErrT l.prog K mg (inClass (top 1) 0) fI AE CT CA := ⟨aimI_mk ⟨⟨_, _, _, _, _, _, _, _, _, _, _, _, rfl, fun env => ⟨_, rfl⟩⟩, rfl, ⟨_, _, _, _, rfl⟩⟩ lI cI lcI e1I e2I lccI hDI tII topI thI, aimC_mk lcT bmT saT exT tyT kcT gaT ggT hdT sbT suT veT nvT inT owT gtO tkO obT, PySem.W.mg_of X G m_CT, aimC_mk lcA bmA saA exA tyA kcA gaA ggA hdA sbA suA veA nvA inA owA gtO tkO obA, PySem.W.mg_of X G m_CA⟩
  have M : ErrM K AE CT CA := ⟨xT, xA, iT, iA⟩
  have FP := fun_mk (st := sPI) lP cP kP
  have W : PerT K mg C fP _ := ⟨⟨pg, hdP, po, saP⟩, ⟨mkP, aP, iP, kcP⟩, PySem.W.mg_of X G m_C, ⟨⟨ocP, odP, _, _, dcP, pmP, anP, cdP, ctP, slP, rfl, lP, cP, .inl ⟨rfl, rfl⟩, .inr ⟨DP, rfl, fun q hq => by
    simp only [List.mem_cons, List.not_mem_nil, or_false] at hq
    rcases hq with rfl | rfl
    · exact ⟨_, d1, _, rfl⟩
    · exact ⟨_, d2, _, rfl⟩⟩⟩, kP⟩, n1, n2, n3, n4⟩
  have V : PrpT K C := ⟨⟨p1, g1, _, ⟨pa1, pt1, pk1, _, pr1⟩, fun_mk l1 c1 k1, n1⟩, ⟨p2, g2, _, ⟨pa2, pt2, pk2, _, pr2⟩, fun_mk l2 c2 k2, n2⟩, ⟨p3, g3, _, ⟨pa3, pt3, pk3, _, pr3⟩, fun_mk l3 c3 k3, n3⟩, ⟨p4, g4, _, ⟨pa4, pt4, pk4, _, pr4⟩, fun_mk l4 c4 k4, n4⟩⟩
  have U : CauT K mg (top 24) AE := ⟨q__law_caught, ⟨_, _, _, _, _, _, _, _, _, _, _, _, _, _, _, rfl⟩, ⟨rfl, rfl, rfl, by decide +kernel, rfl, by decide +kernel, by decide +kernel⟩, rfl, rfl, rfl, rfl, (fun _ _ _ _ _ _ us hl => match us, hl with | [_], _ => rfl), PySem.W.mg_of X G m_AE⟩
  have tb : PySem.W.tabIn K "_law_right" = some (c, Pt) := by
    unfold PySem.W.tabIn
    rw [aR]
    dsimp only
    rw [lR]
    dsimp only [PySem.W.fnOf]
    rw [lcR]
    dsimp only
    rw [e11]
  obtain ⟨hcd, hPt⟩ := tabs _ _ _ _ rR tb
  refine ⟨PySem.W.fnOf "law" "law" (defArgs (top 35)) (defBody (top 35)) (defScope (top 35)) .none kVL dcL pmL anL cdL ctL, [(c, Pt)], spLaw K [(Pt, qualR)], fun p hp => ?_, fun s u => .of_eq rfl, fun H a ns hl hb ht hs => ⟨a, ns, rfl, hs, hl, hb, fun p hp => ?_, fun _ => rfl⟩, fun base _ _ TB => ?_⟩
  · rw [List.mem_singleton.mp hp]
    exact ⟨hPt, nP, hcd⟩
  · rw [List.mem_singleton.mp hp]
    exact LamX.TabS.nil (ht _ (List.mem_singleton.mpr rfl))
  · have TT : List (Addr × Str) := [(Pt, qualR)]
    have TB := TB _ (List.mem_singleton.mpr rfl)
    have D0 := ok_is_integer (P := l.prog) (w := w) (base := base) (G := false) q_is_integer T
    have D1 := ok_is_from (G := false) q_is_from T D0
    have D2 := ok_take (P := l.prog) (w := w) (base := base) (TT := [(Pt, qualR)]) q__law_take T
    have D3 := ok_of (K := K) (G := false) q__law_of T D2
    have D4 := ok_cells (P := l.prog) (w := w) (base := base) (G := false) q__law_cells T
    have D5 := ok_pot (P := l.prog) (w := w) (base := base) (G := false) q__law_pot T
    have D6 := ok_is (P := l.prog) (w := w) (base := base) (G := false) q__law_is T
    have D7 := ok_within (G := false) q__law_within T D6
    have D8 := ok_same (G := false) q__law_same T D6 1
    have D9 := ok_odd (G := false) q__law_odd T D3
    have D10 := ok_number (G := false) q__law_number T D2 D3 D9
    have D11 := ok_given (G := false) q__law_given T D2 D3 D6 D10
    have D12 := ok_wrong (G := false) q__law_wrong T D7
    have PF := ok_person (P := l.prog) (w := w) (base := base) W Z Y T D1
    have D13 := ok_numbers (P := l.prog) (w := w) (base := base) (G := false) q__law_numbers T W V
    have D14 := ok_left (G := false) q__law_left_out T W PF D13
    have D15 := ok_right rfl TB (hasC_mk X G aR lR cR kR) T W Z M U PF D11 D12 D7 D13 D8 D14
    exact rn_law (fun_mk lL cL kL) T D4 D5 D15
end Aim

open PySem PySem.W PyProof.Rows in
set_option maxRecDepth 100000 in
set_option maxHeartbeats 0 in
theorem PySem.Challenge.cw_aimedpresses_k07_persons_made_holds : PySem.Challenge.rw_aimedpresses_k07_persons_made.Holds := by
  w_on; o_law; k_head; (case hw => w_witness2)
  k_fill
  refine Aim.walk_law (l := PySem.Challenge.rw_aimedpresses_k07_persons_made) (n := 63) (k := 8) (x := "_law_script") rfl (by decide) rfl ⟨rfl, by decide, by decide⟩ (fun w h Y => PySem.W.km_in_of Y) ?F
  case F =>
    intro w mg fa h Y KX G hmg tabs
    have q_is_integer : Aim.Has (L2.KOf KX) mg "is_integer" (Aim.top 6) := by
      refine' Aim.has_mk KX G ?a ?l ?c ?k
      (case a => k_is)
      (case l => k_is)
      (case c => k_is)
      (case k => k_is)
    have q_is_from : Aim.Has (L2.KOf KX) mg "is_from" (Aim.top 7) := by
      refine' Aim.has_mk KX G ?a ?l ?c ?k
      (case a => k_is)
      (case l => k_is)
      (case c => k_is)
      (case k => k_is)
    have q__law_pot : Aim.Has (L2.KOf KX) mg "_law_pot" (Aim.top 20) := by
      refine' Aim.has_mk KX G ?a ?l ?c ?k
      (case a => k_is)
      (case l => k_is)
      (case c => k_is)
      (case k => k_is)
    have q__law_take : Aim.Has (L2.KOf KX) mg "_law_take" (Aim.top 21) := by
      refine' Aim.has_mk KX G ?a ?l ?c ?k
      (case a => k_is)
      (case l => k_is)
      (case c => k_is)
      (case k => k_is)
    have q__law_of : Aim.Has (L2.KOf KX) mg "_law_of" (Aim.top 22) := by
      refine' Aim.has_mk KX G ?a ?l ?c ?k
      (case a => k_is)
      (case l => k_is)
      (case c => k_is)
      (case k => k_is)
    have q__law_cells : Aim.Has (L2.KOf KX) mg "_law_cells" (Aim.top 23) := by
      refine' Aim.has_mk KX G ?a ?l ?c ?k
      (case a => k_is)
      (case l => k_is)
      (case c => k_is)
      (case k => k_is)
    have q__law_caught : Aim.Has (L2.KOf KX) mg "_law_caught" (Aim.top 24) := by
      refine' Aim.has_mk KX G ?a ?l ?c ?k
      (case a => k_is)
      (case l => k_is)
      (case c => k_is)
      (case k => k_is)
    have q__law_same : Aim.Has (L2.KOf KX) mg "_law_same" (Aim.top 25) := by
      refine' Aim.has_mk KX G ?a ?l ?c ?k
      (case a => k_is)
      (case l => k_is)
      (case c => k_is)
      (case k => k_is)
    have q__law_is : Aim.Has (L2.KOf KX) mg "_law_is" (Aim.top 26) := by
      refine' Aim.has_mk KX G ?a ?l ?c ?k
      (case a => k_is)
      (case l => k_is)
      (case c => k_is)
      (case k => k_is)
    have q__law_odd : Aim.Has (L2.KOf KX) mg "_law_odd" (Aim.top 27) := by
      refine' Aim.has_mk KX G ?a ?l ?c ?k
      (case a => k_is)
      (case l => k_is)
      (case c => k_is)
      (case k => k_is)
    have q__law_number : Aim.Has (L2.KOf KX) mg "_law_number" (Aim.top 28) := by
      refine' Aim.has_mk KX G ?a ?l ?c ?k
      (case a => k_is)
      (case l => k_is)
      (case c => k_is)
      (case k => k_is)
    have q__law_given : Aim.Has (L2.KOf KX) mg "_law_given" (Aim.top 29) := by
      refine' Aim.has_mk KX G ?a ?l ?c ?k
      (case a => k_is)
      (case l => k_is)
      (case c => k_is)
      (case k => k_is)
    have q__law_within : Aim.Has (L2.KOf KX) mg "_law_within" (Aim.top 30) := by
      refine' Aim.has_mk KX G ?a ?l ?c ?k
      (case a => k_is)
      (case l => k_is)
      (case c => k_is)
      (case k => k_is)
    have q__law_wrong : Aim.Has (L2.KOf KX) mg "_law_wrong" (Aim.top 31) := by
      refine' Aim.has_mk KX G ?a ?l ?c ?k
      (case a => k_is)
      (case l => k_is)
      (case c => k_is)
      (case k => k_is)
    have q__law_numbers : Aim.Has (L2.KOf KX) mg "_law_numbers" (Aim.top 32) := by
      refine' Aim.has_mk KX G ?a ?l ?c ?k
      (case a => k_is)
      (case l => k_is)
      (case c => k_is)
      (case k => k_is)
    have q__law_left_out : Aim.Has (L2.KOf KX) mg "_law_left_out" (Aim.top 33) := by
      refine' Aim.has_mk KX G ?a ?l ?c ?k
      (case a => k_is)
      (case l => k_is)
      (case c => k_is)
      (case k => k_is)
    refine' Aim.fin KX G hmg tabs q_is_integer q_is_from q__law_pot q__law_take q__law_of q__law_cells q__law_caught q__law_same q__law_is q__law_odd q__law_number q__law_given q__law_within q__law_wrong q__law_numbers q__law_left_out ?z_len ?z_int ?z_abs ?z_isinstance ?z_bool ?z_str ?z_list ?z_tuple ?z_range ?z_max ?z_min ?z_all ?z_any ?z_zip ?z_repr ?z_super ?z_sorted ?z_enumerate ?z_dict ?z_set ?z_bytes ?z_sum ?gMT ?gMA ?aL ?lL ?cL ?kL ?rR ?aR ?lR ?cR ?kR ?lcR ?e11 ?nP ?m_AE ?m_CT ?m_CA ?m_C ?iniCT ?lI ?cI ?lcI ?e1I ?e2I ?lccI ?hDI ?tII ?topI ?thI ?lcT ?bmT ?saT ?exT ?tyT ?kcT ?gaT ?ggT ?hdT ?sbT ?suT ?veT ?nvT ?inT ?owT ?obT ?xT ?iT ?lcA ?bmA ?saA ?exA ?tyA ?kcA ?gaA ?ggA ?hdA ?sbA ?suA ?veA ?nvA ?inA ?owA ?obA ?xA ?iA ?gtO ?tkO ?aP ?iP ?lP ?cP ?kP ?d1 ?d2 ?pg ?hdP ?po ?saP ?mkP ?kcP ?n1 ?n2 ?n3 ?n4 ?pa1 ?pt1 ?pk1 ?pr1 ?l1 ?c1 ?k1 ?pa2 ?pt2 ?pk2 ?pr2 ?l2 ?c2 ?k2 ?pa3 ?pt3 ?pk3 ?pr3 ?l3 ?c3 ?k3 ?pa4 ?pt4 ?pk4 ?pr4 ?l4 ?c4 ?k4
    (case z_len => k_is)
    (case z_int => k_is)
    (case z_abs => k_is)
    (case z_isinstance => k_is)
    (case z_bool => k_is)
    (case z_str => k_is)
    (case z_list => k_is)
    (case z_tuple => k_is)
    (case z_range => k_is)
    (case z_max => k_is)
    (case z_min => k_is)
    (case z_all => k_is)
    (case z_any => k_is)
    (case z_zip => k_is)
    (case z_repr => k_is)
    (case z_super => k_is)
    (case z_sorted => k_is)
    (case z_enumerate => k_is)
    (case z_dict => k_is)
    (case z_set => k_is)
    (case z_bytes => k_is)
    (case z_sum => k_is)
    (case gMT => k_is)
    (case gMA => k_is)
    (case aL => k_is)
    (case lL => k_is)
    (case cL => k_is)
    (case kL => k_is)
    (case rR => rfl)
    (case aR => k_is)
    (case lR => k_is)
    (case cR => k_is)
    (case kR => k_is)
    (case lcR => k_is)
    (case e11 => rfl)
    (case nP => kernel_rfl)
    (case m_AE => k_is)
    (case m_CT => k_is)
    (case m_CA => k_is)
    (case m_C => k_is)
    (case iniCT => k_is)
    (case lI => k_is)
    (case cI => k_is)
    (case lcI => k_is)
    (case e1I => rfl)
    (case e2I => kernel_rfl)
    (case lccI => k_is)
    (case hDI => k_is)
    (case tII => k_is)
    (case topI => kernel_rfl)
    (case thI => k_is)
    (case lcT => k_is)
    (case bmT => kernel_rfl)
    (case saT => k_is)
    (case exT => k_is)
    (case tyT => k_is)
    (case kcT => k_is)
    (case gaT => k_is)
    (case ggT => k_is)
    (case hdT => k_is)
    (case sbT => k_is)
    (case suT => kernel_rfl)
    (case veT => k_is)
    (case nvT => k_is)
    (case inT => k_is)
    (case owT => k_is)
    (case obT => k_is)
    (case xT => kernel_rfl)
    (case iT => kernel_rfl)
    (case lcA => k_is)
    (case bmA => kernel_rfl)
    (case saA => k_is)
    (case exA => k_is)
    (case tyA => k_is)
    (case kcA => k_is)
    (case gaA => k_is)
    (case ggA => k_is)
    (case hdA => k_is)
    (case sbA => k_is)
    (case suA => kernel_rfl)
    (case veA => k_is)
    (case nvA => k_is)
    (case inA => k_is)
    (case owA => k_is)
    (case obA => k_is)
    (case xA => kernel_rfl)
    (case iA => kernel_rfl)
    (case gtO => k_is)
    (case tkO => k_is)
    (case aP => k_is)
    (case iP => k_is)
    (case lP => k_is)
    (case cP => k_is)
    (case kP => k_is)
    (case d1 => k_is)
    (case d2 => k_is)
    (case pg => k_is)
    (case hdP => k_is)
    (case po => k_is)
    (case saP => k_is)
    (case mkP => k_is)
    (case kcP => k_is)
    (case n1 => k_is)
    (case n2 => k_is)
    (case n3 => k_is)
    (case n4 => k_is)
    (case pa1 => k_is)
    (case pt1 => k_is)
    (case pk1 => k_is)
    (case pr1 => k_is)
    (case l1 => k_is)
    (case c1 => k_is)
    (case k1 => k_is)
    (case pa2 => k_is)
    (case pt2 => k_is)
    (case pk2 => k_is)
    (case pr2 => k_is)
    (case l2 => k_is)
    (case c2 => k_is)
    (case k2 => k_is)
    (case pa3 => k_is)
    (case pt3 => k_is)
    (case pk3 => k_is)
    (case pr3 => k_is)
    (case l3 => k_is)
    (case c3 => k_is)
    (case k3 => k_is)
    (case pa4 => k_is)
    (case pt4 => k_is)
    (case pk4 => k_is)
    (case pr4 => k_is)
    (case l4 => k_is)
    (case c4 => k_is)
    (case k4 => k_is)
