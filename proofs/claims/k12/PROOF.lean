import PyProof.Rows.All
import Wide.All
import OpenK.AllK
import Wide.FinOn
import HandS.ForMost
import HandS.ForExc
import HandS.Wide
import HandS.IsInst
import HandS.Defaults
import HandS.MakeKwOnly
import HandS.Property
import HandS.Strs
import HandS.Flow
import HandS.Zip
import HandS.Lambda
import HandS.ExcSuper
import HandS.ExcInit
import HandS.ExcValue
import HandS.ExcField
import HandS.ExcIs
import KE.KExcSuper
import KE.KExcIs
import HandS.EndTab
import HandS.Conv
import HandS.Walk
import PyProof.NeKinds
import HandS.Deep
import HandS.Text
import HandS.TupAny
import HandS.StrSplit
import HandS.More
import HandS.Style
import KE.GoesEnum
import PySem.Challenge.RW_aimedpresses_k12_runs_as_texts
set_option Elab.async false
set_option linter.all false
set_option maxRecDepth 100000
set_option maxHeartbeats 4000000
namespace Aim
open PySem PySem.Spec PyProof.Rows L2
/-! ### draws: the pot, a list of three ints that is known by its bounds alone -/
/-- what the three numbers of a pot keep: n draws at most so far -/
structure PotB (d m t : Int) (n : Nat) : Prop where
  d0 : 0 ≤ d
  m0 : -(2 ^ 62) < m
  m1 : m < 2 ^ 62
  t0 : 0 ≤ t
  t1 : t ≤ n
def PotO (n : Nat) (a : Addr) : HO := .ext fun h => ∃ (d m t : Int) (i0 i1 i2 : Tok) (k : Nat), h.get? a = some { cls := .type "list", data := .seq #[.int d i0, .int m i1, .int t i2] k } ∧ PotB d m t n
theorem PotO.ok {P : Program} {w : World} {H : Hp} {h : Heap} {a : Addr} {n k : Nat} {d m t : Int} {i0 i1 i2 : Tok} (e : h.get? a = some { cls := .type "list", data := .seq #[.int d i0, .int m i1, .int t i2] k }) (b : PotB d m t n) : ObjOk P w H h a (PotO n a) :=
  ⟨⟨d, m, t, i0, i1, i2, k, e, b⟩, ⟨_, e⟩, fun _ _ ⟨d, m, t, i0, i1, i2, k, q, b⟩ f => ⟨d, m, t, i0, i1, i2, k, f _ q, b⟩⟩
theorem PotO.at {P : Program} {w : World} {H : Hp} {h : Heap} {a : Addr} {n : Nat} (hok : HOk P w H h) (e : H a = some (PotO n a)) : ∃ (d m t : Int) (i0 i1 i2 : Tok) (k : Nat), h.get? a = some { cls := .type "list", data := .seq #[.int d i0, .int m i1, .int t i2] k } ∧ PotB d m t n := by
  obtain ⟨x, _, _⟩ := (show ObjOk P w H h a (PotO n a) from hok a _ e)
  exact x
theorem PotB.mono {d m t : Int} {n k : Nat} (b : PotB d m t n) (h : n ≤ k) : PotB d m t k := ⟨b.d0, b.m0, b.m1, b.t0, by have := b.t1; omega⟩

section
variable {X : Cx} {pins : List (Addr × Obj)} {σ : L2.St} {H : Hp} {s : Shared}
/-- what is told of an object is told otherwise -/
theorem retell {a : Addr} {o : HO} (I : Inv X pins σ H s) (mu : Mut (H a)) (there : ∃ u, s.heap.get? a = some u) (new : ObjOk X.prog X.w (upd H a o) s.heap a o) : Inv X pins σ (upd H a o) s :=
  I.write (t' := s.toks) (x := a) (e := a) (o := o) mu (.inl rfl) (fun _ _ _ q => q) there new
theorem upd_self {H : Hp} {a : Addr} {o : HO} (h : H a = some o) : upd H a o = H := by
  funext b
  by_cases e : b = a
  · rw [e, upd_same, h]
  · rw [upd_ne e]
/-- a new list of three numbers is a pot -/
def tPot (te : TE) : TE := fun σ H Q => te σ H fun x H1 => ∃ (p : Addr) (d m t : Int) (n : Nat), x = .ref p ∧ H1 p = some (.lst [.int d, .int m, .int t]) ∧ PotB d m t n ∧ Q (.ref p) (upd H1 p (PotO n p))
theorem pe_pot {e : Expr} {te : TE} (he : PE X e te) : PE X e (tPot te) := by
  refine ⟨fun pins s σ H Q I h => thn (he.run pins s σ H _ I h) fun u s1 ⟨x, H1, I1, r1, p, d, m, t, n, ex, hp, hb, q⟩ => ?_⟩
  subst ex
  obtain ⟨_, its, k, rv, hg⟩ := (show ObjOk X.prog X.w H1 s1.heap p (.lst [.int d, .int m, .int t]) from I1.hok p _ hp)
  cases rv with
  | cons r0 rv =>
    cases rv with
    | cons r1' rv =>
      cases rv with
      | cons r2 rv =>
        cases rv
        obtain ⟨i0, rfl⟩ := r0
        obtain ⟨i1, rfl⟩ := r1'
        obtain ⟨i2, rfl⟩ := r2
        exact ⟨_, _, retell I1 (by rw [hp]; exact True.intro) ⟨_, hg⟩ (PotO.ok hg hb), r1, q⟩
/-- pot[0], pot[1], pot[2] -/
def rIxP : R2 := fun x y H Q => ∃ (p : Addr) (n : Nat) (i : Int), x = .ref p ∧ y = .int i ∧ H p = some (PotO n p) ∧ ((i = 0 ∧ ∀ d : Int, 0 ≤ d → Q (.int d) H) ∨ (i = 1 ∧ ∀ m : Int, -(2 ^ 62) < m → m < 2 ^ 62 → Q (.int m) H) ∨ (i = 2 ∧ ∀ t : Int, 0 ≤ t → t ≤ n → Q (.int t) H))
theorem ix_pot : IxR X rIxP := by
  intro value slice pins s σ H x y v u Q I rx ry ⟨p, n, i, ex, ey, hp, q⟩ hs
  subst ex
  subst ey
  obtain ⟨d, m, t, i0, i1, i2, k, hg, b⟩ := PotO.at I.hok hp
  have I1 : Inv X pins σ (upd H p (.lst [.int d, .int m, .int t])) s :=
    retell I (by rw [hp]; exact True.intro) ⟨_, hg⟩ ⟨by show 3 ≤ sizeLine; decide, [.int d i0, .int m i1, .int t i2], k, .cons ⟨_, rfl⟩ (.cons ⟨_, rfl⟩ (.cons ⟨_, rfl⟩ .nil)), hg⟩
  have back : ∀ {s' : Shared} {z : V} {w : Value}, Inv X pins σ (upd H p (.lst [.int d, .int m, .int t])) s' → RelV z w → Q z H → EP X pins σ Q w s' := fun {s' z w} J rz q => by
    obtain ⟨_, its, k', rv, hg'⟩ := (show ObjOk X.prog X.w (upd H p (.lst [.int d, .int m, .int t])) s'.heap p (.lst [.int d, .int m, .int t]) from J.hok p _ upd_same)
    cases rv with
    | cons r0 rv =>
      cases rv with
      | cons r1' rv =>
        cases rv with
        | cons r2 rv =>
          cases rv
          obtain ⟨j0, rfl⟩ := r0
          obtain ⟨j1, rfl⟩ := r1'
          obtain ⟨j2, rfl⟩ := r2
          have J2 := retell (o := PotO n p) J (by rw [upd_same]; exact True.intro) ⟨_, hg'⟩ (PotO.ok hg' b)
          rw [upd_upd, upd_self hp] at J2
          exact ⟨z, H, J2, rz, q⟩
  have key : ∀ (z : V), atI [V.int d, V.int m, V.int t] i = some z → Q z H → wpAny (model X.prog X.w) X.A (subscriptTail value slice v u) (EP X pins σ Q) X.xe s := fun z hz q =>
    thn (ix_list value slice pins s σ _ (.ref p) (.int i) v u (fun y H' => y = z ∧ H' = upd H p (.lst [.int d, .int m, .int t])) I1 rx ry ⟨p, _, i, z, rfl, rfl, SqL.of upd_same, hz, rfl, rfl⟩ hs) fun w s' ⟨y, H', J, rw', ey, eH⟩ => by
      subst ey
      subst eH
      exact back J rw' q
  rcases q with ⟨e, q⟩ | ⟨e, q⟩ | ⟨e, q⟩
  · subst e
    exact key (.int d) rfl (q d b.d0)
  · subst e
    exact key (.int m) rfl (q m b.m0 b.m1)
  · subst e
    exact key (.int t) rfl (q t b.t0 b.t1)
/-- pot[0] = d; pot[2] = t -/
def rSetP : TSet := fun o i v H Q => ∃ (p : Addr) (n : Nat) (j z : Int), o = .ref p ∧ i = .int j ∧ v = .int z ∧ H p = some (PotO n p) ∧ ((j = 0 ∧ 0 ≤ z ∧ ∃ n' : Nat, n ≤ n' ∧ Q (upd H p (PotO n' p))) ∨ (j = 2 ∧ ∃ n' : Nat, n ≤ n' ∧ 0 ≤ z ∧ z ≤ n' ∧ Q (upd H p (PotO n' p))))
theorem set_pot : PSet X rSetP := by
  intro pins s σ H o i v ov iv u Q I ro ri rv ⟨p, n, j, z, eo, ei, ev, hp, q⟩
  subst eo
  subst ei
  subst ev
  obtain ⟨d, m, t, i0, i1, i2, k, hg, b⟩ := PotO.at I.hok hp
  have I1 : Inv X pins σ (upd H p (.lst [.int d, .int m, .int t])) s :=
    retell I (by rw [hp]; exact True.intro) ⟨_, hg⟩ ⟨by show 3 ≤ sizeLine; decide, [.int d i0, .int m i1, .int t i2], k, .cons ⟨_, rfl⟩ (.cons ⟨_, rfl⟩ (.cons ⟨_, rfl⟩ .nil)), hg⟩
  have back : ∀ {s' : Shared} {d m t : Int} {n' : Nat}, Inv X pins σ (upd (upd H p (.lst [.int d, .int m, .int t])) p (.lst [.int d, .int m, .int t])) s' → PotB d m t n' → Q (upd H p (PotO n' p)) → ∃ H', Inv X pins σ H' s' ∧ Q H' := fun {s' d m t n'} J b q => by
    rw [upd_upd] at J
    obtain ⟨_, its, k', rv, hg'⟩ := (show ObjOk X.prog X.w (upd H p (.lst [.int d, .int m, .int t])) s'.heap p (.lst [.int d, .int m, .int t]) from J.hok p _ upd_same)
    cases rv with
    | cons r0 rv =>
      cases rv with
      | cons r1' rv =>
        cases rv with
        | cons r2 rv =>
          cases rv
          obtain ⟨j0, rfl⟩ := r0
          obtain ⟨j1, rfl⟩ := r1'
          obtain ⟨j2, rfl⟩ := r2
          have J2 := retell (o := PotO n' p) J (by rw [upd_same]; exact True.intro) ⟨_, hg'⟩ (PotO.ok hg' b)
          rw [upd_upd] at J2
          exact ⟨_, J2, q⟩
  rcases q with ⟨e, z0, n', hn, q⟩ | ⟨e, n', hn, z0, z1, q⟩
  · subst e
    refine thn (set_list pins s σ _ (.ref p) (.int 0) (.int z) ov iv u (fun H' => H' = upd (upd H p (.lst [.int d, .int m, .int t])) p (.lst [.int z, .int m, .int t])) I1 ro ri rv ⟨p, _, 0, 0, rfl, rfl, upd_same, rfl, rfl⟩) fun _ s' ⟨H', J, eH⟩ => ?_
    subst eH
    rw [upd_upd] at J
    refine back (s' := s') (d := z) (m := m) (t := t) (n' := n') (by rw [upd_upd]; exact J) ⟨z0, b.m0, b.m1, b.t0, (b.mono hn).t1⟩ q
  · subst e
    refine thn (set_list pins s σ _ (.ref p) (.int 2) (.int z) ov iv u (fun H' => H' = upd (upd H p (.lst [.int d, .int m, .int t])) p (.lst [.int d, .int m, .int z])) I1 ro ri rv ⟨p, _, 2, 2, rfl, rfl, upd_same, rfl, rfl⟩) fun _ s' ⟨H', J, eH⟩ => ?_
    subst eH
    rw [upd_upd] at J
    exact back (s' := s') (d := d) (m := m) (t := z) (n' := n') (by rw [upd_upd]; exact J) ⟨b.d0, b.m0, b.m1, z0, z1⟩ q
/-- powers of great numbers -/
theorem op_powW : OpR X (binaryOp .Pow) (rI (fun i j => 0 ≤ j ∧ (Builtin.Int.intBits i : Int) * j ≤ 2 ^ 27) fun i j => .int (i ^ j.toNat)) := opI fun _ _ _ _ _ _ _ hc q => pow_int hc.1 hc.2 q
end
end Aim

namespace Aim
open PySem PySem.Spec PyProof.Rows L2
/-! ### heaps that grow: all but pots and code tables stands -/
theorem codeO_np {c : Addr} {q : Str} {n : Nat} : LamX.CodeO c q ≠ PotO n c := fun z => by
  unfold LamX.CodeO PotO at z
  injection z with z
  obtain ⟨h, hh⟩ : ∃ h : Heap, h.get? c = some { cls := .type "list", data := .seq #[.int 0 0, .int 0 0, .int 0 0] 0 } := ⟨⟨Array.replicate (c + 1) { cls := .type "list", data := .seq #[.int 0 0, .int 0 0, .int 0 0] 0 }, {}⟩, by simp [Heap.get?]⟩
  have y := congrFun z h
  have q : ∃ (oc : Obj) (vs : Array Value) (t : Tok), h.get? c = some oc ∧ oc.data = .fields vs ∧ vs[1]? = some (.str q t) := by
    rw [y]
    exact ⟨0, 0, 0, 0, 0, 0, 0, hh, ⟨by omega, by decide, by decide, by omega, by omega⟩⟩
  obtain ⟨oe, vs, t, e1, e2, _⟩ := q
  rw [hh] at e1
  cases e1
  cases e2
/-- T: the code tables of the law's lambdas -/
def Ext (T : List (Addr × Str)) (H H' : Hp) : Prop := (∀ b o, H b = some o → (∀ n, o ≠ PotO n b) → (∀ ps, o ≠ .tbl ps) → H' b = some o) ∧ (LamX.Tabs T H → LamX.Tabs T H')
theorem Ext.refl {T : List (Addr × Str)} (H : Hp) : Ext T H H := ⟨fun _ _ e _ _ => e, id⟩
theorem Ext.trans {T : List (Addr × Str)} {H H1 H2 : Hp} (a : Ext T H H1) (b : Ext T H1 H2) : Ext T H H2 := ⟨fun c o e n m => b.1 c o (a.1 c o e n m) n m, fun x => b.2 (a.2 x)⟩
theorem Ext.of {T : List (Addr × Str)} {H H' : Hp} (e : ∀ b o, H b = some o → H' b = some o) : Ext T H H' := ⟨fun b o h _ _ => e b o h, fun t => t.ext e⟩
theorem Ext.new {T : List (Addr × Str)} {H : Hp} {p : Addr} {o : HO} (h : H p = none) : Ext T H (upd H p o) := .of fun b u e => by
  rw [upd_ne (ne_of_none e h)]
  exact e
theorem Ext.pot {T : List (Addr × Str)} {H : Hp} {p : Addr} {n m : Nat} (h : H p = some (PotO n p)) : Ext T H (upd H p (PotO m p)) := by
  have k : ∀ b u, H b = some u → (∀ n, u ≠ PotO n b) → upd H p (PotO m p) b = some u := fun b u e k => by
    by_cases hb : b = p
    · subst hb
      rw [h] at e
      exact absurd (Option.some.inj e).symm (k n)
    · rw [upd_ne hb]
      exact e
  refine ⟨fun b u e q _ => k b u e q, fun t x hx => ?_⟩
  obtain ⟨ps, h1, h2, h3⟩ := t x hx
  refine ⟨ps, k _ _ h1 (fun n z => by unfold PotO at z; cases z), h2, fun pos cv hc => ?_⟩
  obtain ⟨c, e1, e2⟩ := h3 pos cv hc
  exact ⟨c, e1, k _ _ e2 fun n => codeO_np⟩
theorem Ext.lam {T : List (Addr × Str)} {H H' : Hp} (e : LamX.ExtN H H') (t : LamX.Tabs T H') : Ext T H H' := ⟨fun b o h _ n => e b o h n, fun _ => t⟩
theorem lst_np {xs : List V} {n : Nat} {a : Addr} : HO.lst xs ≠ PotO n a := fun z => by
  unfold PotO at z
  cases z
theorem tup_np {xs : List V} {n : Nat} {a : Addr} : HO.tup xs ≠ PotO n a := fun z => by
  unfold PotO at z
  cases z
theorem frz_np {o : Obj} {u : HO} {n : Nat} {a : Addr} : HO.frz o u ≠ PotO n a := fun z => by
  unfold PotO at z
  cases z
theorem dK_np {k : List (Key × V)} {n : Nat} {a : Addr} : HO.dK k ≠ PotO n a := fun z => by
  unfold PotO at z
  cases z
theorem ins_np {C dx : Addr} {fs : List (Str × V)} {n : Nat} {a : Addr} : HO.ins C dx fs ≠ PotO n a := fun z => by
  unfold PotO at z
  cases z
theorem own_np {x : Addr} {n : Nat} {a : Addr} : HO.own x ≠ PotO n a := fun z => by
  unfold PotO at z
  cases z
theorem xd_np {fs : List (Str × V)} {n : Nat} {a : Addr} : HO.xd fs ≠ PotO n a := fun z => by
  unfold PotO at z
  cases z
section
variable {K : PySem.W.Frag} {T : List (Addr × Str)} {H H' : Hp}
theorem Ext.lst {a : Addr} {xs : List V} (e : Ext T H H') (h : H a = some (.lst xs)) : H' a = some (.lst xs) := e.1 a _ h (fun _ => lst_np) fun _ z => nomatch z
theorem Ext.tup {a : Addr} {xs : List V} (e : Ext T H H') (h : H a = some (.tup xs)) : H' a = some (.tup xs) := e.1 a _ h (fun _ => tup_np) fun _ z => nomatch z
theorem Ext.dK {a : Addr} {xs : List (Key × V)} (e : Ext T H H') (h : H a = some (.dK xs)) : H' a = some (.dK xs) := e.1 a _ h (fun _ => dK_np) fun _ z => nomatch z
theorem Ext.ins {a C dx : Addr} {fs : List (Str × V)} (e : Ext T H H') (h : H a = some (.ins C dx fs)) : H' a = some (.ins C dx fs) := e.1 a _ h (fun _ => ins_np) fun _ z => nomatch z
theorem Ext.frz {a : Addr} {o : Obj} {u : HO} (e : Ext T H H') (h : H a = some (.frz o u)) : H' a = some (.frz o u) := e.1 a _ h (fun _ => frz_np) fun _ z => nomatch z
theorem Ext.xd {a : Addr} {fs : List (Str × V)} (e : Ext T H H') (h : H a = some (.xd fs)) : H' a = some (.xd fs) := e.1 a _ h (fun _ => xd_np) fun _ z => nomatch z
theorem Ext.sqL {a : Addr} {xs : List V} (e : Ext T H H') (h : SqL K H a xs) : SqL K H' a xs := by
  rcases h with (h | ⟨o, h⟩) | h
  · exact .inl (.inl (e.lst h))
  · exact .inl (.inr ⟨o, e.frz h⟩)
  · exact .inr h
theorem Ext.sqT {a : Addr} {xs : List V} (e : Ext T H H') (h : SqT K H a xs) : SqT K H' a xs := by
  rcases h with (h | ⟨o, h⟩) | h
  · exact .inl (.inl (e.tup h))
  · exact .inl (.inr ⟨o, e.frz h⟩)
  · exact .inr h
end
/-! ### plain data in the heap -/
def keyD : Key → PyData
  | .inl i => .int i
  | .inr x => .str x
mutual
inductive DD (K : PySem.W.Frag) (H : Hp) : V → PyData → Prop
  | non : DD K H .non .none
  | bl (b : Bool) : DD K H (.bl b) (.bool b)
  | int (i : Int) : DD K H (.int i) (.int i)
  | str (x : Str) : DD K H (.str x) (.str x)
  | lst {a : Addr} {xs : List V} {ds : List PyData} : SqL K H a xs → DDs K H xs ds → DD K H (.ref a) (.list ds)
  | tup {a : Addr} {xs : List V} {ds : List PyData} : SqT K H a xs → DDs K H xs ds → DD K H (.ref a) (.tuple ds)
  | dct {a : Addr} {kvs : List (Key × V)} {ps : List (PyData × PyData)} : H a = some (.dK kvs) → ps.map (·.1) = kvs.map (fun kv => keyD kv.1) → DDs K H (kvs.map (·.2)) (ps.map (·.2)) → DD K H (.ref a) (.dict ps)
inductive DDs (K : PySem.W.Frag) (H : Hp) : List V → List PyData → Prop
  | nil : DDs K H [] []
  | cons {v : V} {vs : List V} {d : PyData} {ds : List PyData} : DD K H v d → DDs K H vs ds → DDs K H (v :: vs) (d :: ds)
end
section
variable {K : PySem.W.Frag} {T : List (Addr × Str)} {H H' : Hp}
mutual
theorem DD.mono (e : Ext T H H') : ∀ {v : V} {d : PyData}, DD K H v d → DD K H' v d
  | _, _, .non => .non
  | _, _, .bl b => .bl b
  | _, _, .int i => .int i
  | _, _, .str x => .str x
  | _, _, .lst hs ha => .lst (e.sqL hs) (DDs.mono e ha)
  | _, _, .tup hs ha => .tup (e.sqT hs) (DDs.mono e ha)
  | _, _, .dct hs hk ha => .dct (e.dK hs) hk (DDs.mono e ha)
theorem DDs.mono (e : Ext T H H') : ∀ {vs : List V} {ds : List PyData}, DDs K H vs ds → DDs K H' vs ds
  | _, _, .nil => .nil
  | _, _, .cons h r => .cons (DD.mono e h) (DDs.mono e r)
end
theorem DDs.length : ∀ {vs : List V} {ds : List PyData}, DDs K H vs ds → vs.length = ds.length
  | _, _, .nil => rfl
  | _, _, .cons _ r => congrArg (· + 1) (DDs.length r)
theorem DDs.get : ∀ {vs : List V} {ds : List PyData} {i : Nat} {v : V}, DDs K H vs ds → vs[i]? = some v → ∃ d, ds[i]? = some d ∧ DD K H v d
  | _, _, _, _, .nil, e => by simp at e
  | _, _, 0, _, .cons h _, e => by
    simp at e
    subst e
    exact ⟨_, rfl, h⟩
  | _, _, i + 1, _, .cons _ r, e => by
    obtain ⟨d, e1, e2⟩ := DDs.get (i := i) r (by simpa using e)
    exact ⟨d, by simpa using e1, e2⟩
theorem DDs.getD : ∀ {vs : List V} {ds : List PyData} {i : Nat} {d : PyData}, DDs K H vs ds → ds[i]? = some d → ∃ v, vs[i]? = some v ∧ DD K H v d
  | _, _, _, _, .nil, e => by simp at e
  | _, _, 0, _, .cons h _, e => by
    simp at e
    subst e
    exact ⟨_, rfl, h⟩
  | _, _, i + 1, _, .cons _ r, e => by
    obtain ⟨d, e1, e2⟩ := DDs.getD (i := i) r (by simpa using e)
    exact ⟨d, by simpa using e1, e2⟩
theorem DDs.append : ∀ {vs us : List V} {ds es : List PyData}, DDs K H vs ds → DDs K H us es → DDs K H (vs ++ us) (ds ++ es)
  | _, _, _, _, .nil, s => s
  | _, _, _, _, .cons h r, s => .cons h (DDs.append r s)
theorem DDs.take : ∀ {vs : List V} {ds : List PyData} (n : Nat), DDs K H vs ds → DDs K H (vs.take n) (ds.take n)
  | _, _, 0, _ => by simp; exact .nil
  | _, _, _ + 1, .nil => by simp; exact .nil
  | _, _, n + 1, .cons h r => .cons h (DDs.take n r)
theorem DDs.drop : ∀ {vs : List V} {ds : List PyData} (n : Nat), DDs K H vs ds → DDs K H (vs.drop n) (ds.drop n)
  | _, _, 0, r => r
  | _, _, _ + 1, .nil => .nil
  | _, _, n + 1, .cons _ r => DDs.drop n r
theorem DDs.reverse : ∀ {vs : List V} {ds : List PyData}, DDs K H vs ds → DDs K H vs.reverse ds.reverse
  | _, _, .nil => .nil
  | _, _, .cons h r => by
    rw [List.reverse_cons, List.reverse_cons]
    exact DDs.append (DDs.reverse r) (.cons h .nil)
theorem DDs.strs : ∀ (xs : List Str), DDs K H (xs.map V.str) (xs.map PyData.str)
  | [] => .nil
  | x :: r => .cons (.str x) (DDs.strs r)
end
/-! ### reading them off the raw heap -/
mutual
def noList : PyData → Bool
  | .none | .bool _ | .int _ | .str _ => true
  | .list _ => false
  | .tuple xs => noLists xs
  | .dict kvs => noListK kvs
def noLists : List PyData → Bool
  | [] => true
  | x :: xs => noList x && noLists xs
def noListK : List (PyData × PyData) → Bool
  | [] => true
  | (_, v) :: r => noList v && noListK r
end
theorem noListK_map : ∀ (ps : List (PyData × PyData)), noListK ps = noLists (ps.map (·.2))
  | [] => rfl
  | (k, v) :: r => by
    show (noList v && noListK r) = (noList v && noLists (r.map (·.2)))
    rw [noListK_map r]
theorem keysRead {P : Program} {w : World} {h : Heap} : ∀ {es : List DictEntry} {kvs : List (Key × Value)}, Pairs (mixKind P w) es kvs → ReadsAll h (es.map (·.key)) (kvs.map fun kv => keyD kv.1) []
  | _, _, .nil => .nil
  | _, _, .cons (e := e) (kv := kv) h1 _ r => by
    have q := keysRead (h := h) r
    have h1 : keyIs kv.1 e.key = true := h1
    have z : Reads h e.key (keyD kv.1) [] := by
      obtain ⟨k, u⟩ := kv
      rcases keyIs_shape h1 with ⟨i, t, e1, e2⟩ | ⟨x, t, e1, e2⟩
      · dsimp only at e1
        subst e1
        rw [e2]
        exact .int i t
      · dsimp only at e1
        subst e1
        rw [e2]
        exact .str x t
    exact ReadsAll.cons z q
theorem valsPaired {P : Program} {w : World} : ∀ {es : List DictEntry} {kvs : List (Key × Value)}, Pairs (mixKind P w) es kvs → es.map (·.val) = kvs.map (·.2)
  | _, _, .nil => rfl
  | _, _, .cons _ h2 r => by
    rw [List.map_cons, List.map_cons, h2, valsPaired r]
theorem kv_keys : ∀ {kvs : List (Key × V)} {vs : List (Key × Value)}, KV kvs vs → kvs.map (fun kv => keyD kv.1) = vs.map (fun kv => keyD kv.1) ∧ Vals (kvs.map (·.2)) (vs.map (·.2))
  | _, _, .nil => ⟨rfl, .nil⟩
  | _, _, .cons h r => by
    obtain ⟨e1, e2⟩ := kv_keys r
    refine ⟨?_, .cons h.2 e2⟩
    rw [List.map_cons, List.map_cons, h.1, e1]
section
variable {X : Cx} {pins : List (Addr × Obj)} {σ : L2.St} {H : Hp} {s : Shared}
mutual
theorem DD.reads (I : Inv X pins σ H s) : ∀ {v : V} {d : PyData} {u : Value}, DD X.K H v d → RelV v u → ∃ as, Reads s.heap u d as ∧ (noList d = true → sysModules ∉ as)
  | _, _, _, .non, r => by
    cases r
    exact ⟨_, Reads.none, fun _ h => nomatch h⟩
  | _, _, _, .bl b, r => by
    cases r
    exact ⟨_, Reads.bool b, fun _ h => nomatch h⟩
  | _, _, _, .int i, r => by
    obtain ⟨t, rfl⟩ := r
    exact ⟨_, Reads.int i t, fun _ h => nomatch h⟩
  | _, _, _, .str x, r => by
    obtain ⟨t, rfl⟩ := r
    exact ⟨_, Reads.str x t, fun _ h => nomatch h⟩
  | _, _, _, .lst hs ha, r => by
    cases r
    obtain ⟨its, rv, ⟨o, n, ho, hc, _, hd⟩, _⟩ := I.list hs
    obtain ⟨as, hr, _⟩ := DDs.reads I ha rv
    exact ⟨_, Reads.list ho hc hd hr, fun z => by simp [noList] at z⟩
  | _, _, _, .tup hs ha, r => by
    cases r
    obtain ⟨its, rv, ⟨o, ho, hc, n, hd⟩, _⟩ := I.tuple hs
    obtain ⟨as, hr, hn⟩ := DDs.reads I ha rv
    exact ⟨_, Reads.tuple ho hc hd hr, fun z => hn (by simpa [noList] using z)⟩
  | _, _, _, .dct (a := a) (kvs := kvs) (ps := ps) hs hk ha, r => by
    cases r
    obtain ⟨_, hS, vs, rk, o, es, ep, ho, hx, hd, _, hp, _⟩ := (show ObjOk X.prog X.w H s.heap a (.dK kvs) from I.hok a _ hs)
    obtain ⟨e1, e2⟩ := kv_keys rk
    have k1 : ReadsAll s.heap (es.toList.map (·.key)) (ps.map (·.1)) [] := by
      rw [hk, e1]
      exact keysRead hp
    obtain ⟨as, hr, hn⟩ := DDs.reads I ha e2
    have k2 : ReadsAll s.heap (es.toList.map (·.val)) (ps.map (·.2)) as := by
      rw [valsPaired hp]
      exact hr
    refine ⟨_, Reads.dict ho hx.1 hd k1 k2, fun z => ?_⟩
    have z2 : noLists (ps.map (·.2)) = true := by
      rw [← noListK_map]
      simpa [noList] using z
    intro hm
    rcases List.mem_cons.mp hm with q | q
    · rw [← q] at hS
      exact absurd hS (by decide)
    · exact hn z2 q
theorem DDs.reads (I : Inv X pins σ H s) : ∀ {vs : List V} {ds : List PyData} {us : List Value}, DDs X.K H vs ds → Vals vs us → ∃ as, ReadsAll s.heap us ds as ∧ (noLists ds = true → sysModules ∉ as)
  | _, _, _, .nil, r => by
    cases r
    exact ⟨_, ReadsAll.nil, fun _ h => nomatch h⟩
  | _, _, _, .cons h1 h2, r => by
    cases r with
    | cons r1 r2 =>
      obtain ⟨as, q1, n1⟩ := DD.reads I h1 r1
      obtain ⟨bs, q2, n2⟩ := DDs.reads I h2 r2
      refine ⟨_, ReadsAll.cons q1 q2, fun z => ?_⟩
      have z2 := Bool.and_eq_true_iff.mp (by simpa only [noLists] using z)
      intro hm
      rcases List.mem_append.mp hm with q | q
      · exact n1 z2.1 q
      · exact n2 z2.2 q
end
/-! ### repr, ==, isinstance -/
def rRepr (K : PySem.W.Frag) : List V → Hp → VK → Prop := fun xs H Q => ∃ (x : V) (d : PyData), xs = [x] ∧ DD K H x d ∧ d.showable = true ∧ (d.hasDict = true → noList d = true) ∧ d.depth ≤ 40 ∧ d.shown.length ≤ sizeLine ∧ Q (.str d.shown) H
theorem call_repr (hg : X.A.guards = some []) (hu : X.A.units + 64 < cLine) : CallR X (.builtin "repr") (rRepr X.K) := by
  intro pins s σ H xs us Q I r ⟨x, d, ex, hd, hs, hl, hz, hn, q⟩
  subst ex
  cases r with
  | cons rx rr =>
    cases rr
    rename_i u
    obtain ⟨as, hr, hsm⟩ := DD.reads I hd rx
    have fin : ∀ (h' : Heap) (u : Tok) (tk : Nat), (∀ b o, s.heap.get? b = some o → h'.get? b = some o) → EP X pins σ Q (.str d.shown u) { s with heap := h', toks := tk } := fun h' u tk k => ⟨.str d.shown, H, I.kept (t' := tk) k, ⟨_, rfl⟩, q⟩
    cases hd with
    | non => cases rx; exact P.repr_of_none (fin _ _ _ fun _ _ e => e)
    | bl b => cases rx; exact P.repr_of_bool (fin _ _ _ fun _ _ e => e)
    | int i =>
      obtain ⟨t, rfl⟩ := rx
      exact P.repr_of_int (by simpa [PyData.showable] using hs) (fin _ _ _ fun _ _ e => e)
    | str y =>
      obtain ⟨t, rfl⟩ := rx
      exact P.repr_of_str (fin _ _ _ fun _ _ e => e) hn
    | lst h1 h2 => cases rx; exact repr_of_reads' hr hs (fun z => hsm (hl z)) hg (by omega) (fun _ _ e => e) fin hn
    | tup h1 h2 => cases rx; exact repr_of_reads' hr hs (fun z => hsm (hl z)) hg (by omega) (fun _ _ e => e) fin hn
    | dct h1 h2 h3 => cases rx; exact repr_of_reads' hr hs (fun z => hsm (hl z)) hg (by omega) (fun _ _ e => e) fin hn
/-- == of data without dicts -/
def rEqDD (K : PySem.W.Frag) : R2 := fun x y H Q => ∃ d e, DD K H x d ∧ DD K H y e ∧ SeqAt.shaped d = true ∧ SeqAt.shaped e = true ∧ Q (.bl (PyData.eqv d e)) H
def rNeDD (K : PySem.W.Frag) : R2 := fun x y H Q => ∃ d e, DD K H x d ∧ DD K H y e ∧ SeqAt.shaped d = true ∧ SeqAt.shaped e = true ∧ Q (.bl (!PyData.eqv d e)) H
theorem op_eqDD (hu : X.A.units + 64 < cLine) : OpR X (compareOp .Eq) (rEqDD X.K) := by
  intro pins s σ H x y v u Q I rx ry ⟨d, e, hd, he, sd, se, q⟩
  obtain ⟨as, r1, _⟩ := DD.reads I hd rx
  obtain ⟨bs, r2, _⟩ := DD.reads I he ry
  exact SeqAt.compareEq_shaped r1 r2 sd se hu ⟨.bl _, H, I, rfl, q⟩
theorem op_neDD (hu : X.A.units + 64 < cLine) : OpR X (compareOp .NotEq) (rNeDD X.K) := by
  intro pins s σ H x y v u Q I rx ry ⟨d, e, hd, he, sd, se, q⟩
  obtain ⟨as, r1, _⟩ := DD.reads I hd rx
  obtain ⟨bs, r2, _⟩ := DD.reads I he ry
  exact SeqAt.compareNe_shaped r1 r2 sd se hu ⟨.bl _, H, I, rfl, q⟩
end
/-- the built-in type of data -/
def tyD : PyData → String
  | .none => "NoneType"
  | .bool _ => "bool"
  | .int _ => "int"
  | .str _ => "str"
  | .list _ => "list"
  | .tuple _ => "tuple"
  | .dict _ => "dict"
theorem tyX_sqL {K : PySem.W.Frag} {H : Hp} {a : Addr} {xs : List V} (h : SqL K H a xs) : TyX K H (.ref a) (.type "list") := by
  rcases h with (h | ⟨o, h⟩) | ⟨o, _, _, h, hc, _⟩
  · exact .base (.lst h)
  · exact .base (.frz h)
  · exact .kList h hc
theorem tyX_sqT {K : PySem.W.Frag} {H : Hp} {a : Addr} {xs : List V} (h : SqT K H a xs) : TyX K H (.ref a) (.type "tuple") := by
  rcases h with (h | ⟨o, h⟩) | ⟨o, _, _, h, hc, _⟩
  · exact .base (.tup h)
  · exact .fTuple h
  · exact .kTuple h hc
theorem DD.ty {K : PySem.W.Frag} {H : Hp} {v : V} {d : PyData} (h : DD K H v d) : TyX K H v (.type (tyD d)) := by
  cases h with
  | non => exact .base .non
  | bl b => exact .base (.bl b)
  | int i => exact .base (.int i)
  | str x => exact .base (.str x)
  | lst h1 _ => exact tyX_sqL h1
  | tup h1 _ => exact tyX_sqT h1
  | dct h1 _ _ => exact .base (.dK h1)
/-- isinstance(x, T) of data, T one of int, bool, str, tuple, list -/
def isD (T : String) : PyData → Bool
  | .none => false
  | .bool _ => T == "bool" || T == "int"
  | .int _ => T == "int"
  | .str _ => T == "str"
  | .list _ => T == "list"
  | .tuple _ => T == "tuple"
  | .dict _ => T == "dict"
theorem kit_D {K : PySem.W.Frag} (d : PyData) {T : String} (hT : T = "int" ∨ T = "bool" ∨ T = "str" ∨ T = "tuple" ∨ T = "list") : PySem.W.kitOne K (.type (tyD d)) (.type T) = some (isD T d) := by
  rcases hT with h | h | h | h | h <;> subst h <;> cases d <;> simp only [tyD, isD] <;> exact kit_ty (by decide +kernel)
/-- isinstance(x, T) -/
def rIsD (K : PySem.W.Frag) (T : String) : List V → Hp → VK → Prop := fun xs H Q => ∃ (x : V) (d : PyData), xs = [x, .ty T] ∧ DD K H x d ∧ Q (.bl (isD T d)) H
theorem call_isD {X : Cx} {T : String} (hT : T = "int" ∨ T = "bool" ∨ T = "str" ∨ T = "tuple" ∨ T = "list" := by simp) : CallR X (.builtin "isinstance") (rIsD X.K T) := by
  intro pins s σ H xs us Q I r ⟨x, d, ex, hd, q⟩
  exact call_isi pins s σ H xs us Q I r ⟨x, .ty T, .type (tyD d), .type T, isD T d, ex, .ty T, hd.ty, kit_D d hT, q⟩
end Aim

namespace Aim
open PySem PySem.Spec PyProof.Rows L2
open PySem.W (KxsAt kxs_mw)
/-! ### the package's errors: AimError.__init__ says super().__init__(text), then stores the value -/
/-- the text of AimError.__init__ -/
structure IsInit (st : Stmt) : Prop where
  body : ∃ (p1 p2 p3 p4 p5 p6 p7 p8 p9 p10 : Pos) (m : Str) (jj : Nat), defBody st = [.Expr (.Call (.Attribute (.Call (.Name "super" p1) [] [] p2) "__init__" p3) [.Constant (.str m) jj p4] [] p5) p6, .Assign [.Attribute (.Name "self" p7) "value" p8] (.Name "value" p9) p10] ∧
    ∀ env : Env, ∃ pl : Sem Bool, eval (.Call (.Attribute (.Call (.Name "super" p1) [] [] p2) "__init__" p3) [.Constant (.str m) jj p4] [] p5) env = (do
      let ov ← attributeBase (.Call (.Name "super" p1) [] [] p2) "__init__" env (eval (.Call (.Name "super" p1) [] [] p2) env)
      standAt p3.atName
      let (g, first) ← holding [ov] (getMethod ov "__init__" pl)
      callWith p5 g first (backTo p5 (starEach [.Constant (.str m) jj p4] env)) [])
  sc : defScope st = { kind := .function, names := [("self", .local), ("value", .local), ("__class__", .free), ("super", .globalImplicit)], isGenerator := false, isCoroutine := false }
  ps : ∃ (a b : Option Expr) (p1 p2 : Pos), defArgs st = { posonlyargs := [], args := [{ arg := "self", annotation := a, pos := p1 }, { arg := "value", annotation := b, pos := p2 }], vararg := none, kwonlyargs := [], kw_defaults := [], kwarg := none, defaults := [] }
/-- the def as it stands behind the top; D: the class AimError -/
structure AimI (P : Program) (K : PySem.W.Frag) (st : Stmt) (f D : Addr) : Prop where
  txt : IsInit st
  fn : ∃ (oc : Value) (od an : Option Addr) (osl : Array (Option Value)) (kV doc pm ct : Value) (cc cda : Addr) (ccl cl : Value) (cdd cld : Option Addr) (ccs csl : Array (Option Value)) (vs : Array Value) (file : Str) (tf : Tok) (cdD : ClassData),
    K.lookup f = some ⟨oc, od, .func (PySem.W.fnX "__init__" "AimError.__init__" (defArgs st) (defBody st) (defScope st) [("__class__", cc)] .none kV doc pm an (.ref cda) ct), osl⟩ ∧ PySem.W.codeIn K (.ref cda) "AimError.__init__" = true ∧
    K.lookup cda = some ⟨ccl, cdd, .fields vs, ccs⟩ ∧ vs[2]? = some (.str file tf) ∧ ((P.main.file : Str) == file) = true ∧ K.lookup cc = some ⟨cl, cld, .cell (some (.ref D)), csl⟩ ∧ PySem.W.clsIn K D = some cdD
  tI : PySem.W.typeIn K (.ref f) = some (.type "function")
  top : (P.main.scope.names.lookup ("super" : Str)).isSome = false
  third : PySem.W.nsIn K cStatics "thirdparty.any" = some none
/-- an error class of the package at C, below D -/
structure AimC (K : PySem.W.Frag) (f D C : Addr) : Prop extends OexC K C, XfC K C where
  sub : PySem.W.mroIn K C (.ref D) = some true
  sup : PySem.W.ks_superIn K C D "__init__" = some (some (.builtin "ValueError.__init__"))
  ve : PySem.W.subIn K (.ref C) (.type "ValueError") = some true
  nv : PySem.W.findIn K (.ref C) "value" = some none
  ini : PySem.W.findIn K (.ref C) "__init__" = some (some (.ref f))
  own : PySem.W.findIn K (.ref C) "__class__" = some (some (.builtin "object.__class__"))
  get : PySem.W.specialIn K (.builtin "object.__class__") "__get__" = some (some (.builtin "getset_descriptor.__get__"))
  tak : PySem.W.takesIn K (.builtin "object.__class__") = some true
  obj : PySem.W.mroIn K C (.type "object") = some true
section
variable {P : Program} {w : World} {K : PySem.W.Frag} {mg : Str → Option Value} {base : Heap} {A : Around} {E : Value → Shared → Prop} {R : Result → Shared → Prop} {s : Shared} {f e C D t0 : Addr} {u : Value} {st : Stmt}
/-- the bound ValueError.__init__, called -/
theorem call_mw {q : Addr} {rest : List Value} {Q : Value → Shared → Prop} (hC : ∃ nm qn N bs bm sn sub ab col dd k0 k1 k2 k3 k5, s.heap.get? C = some (excClassObj nm qn C N bs bm true sn sub ab col dd k0 k1 k2 k3 k5 "ValueError.__new__"))
    (he : s.heap.get? e = some (HandSPX.excO C t0)) (hq : s.heap.get? q = some (kxs_mw "ValueError.__init__" e)) (hz : rest.length ≤ sizeLine)
    (h : ∀ h', (∀ b o, b ≠ e → s.heap.get? b = some o → h'.get? b = some o) → h'.get? e = some (HandSPX.excO C s.heap.objs.size) → Q .none { s with heap := h' }) : wpAny (model P w) A (call (.ref q) rest) Q E s := by
  obtain ⟨nm, qn, N, bs, bm, sn, sub, ab, col, dd, k0, k1, k2, k3, k5, hC⟩ := hC
  obtain ⟨hh, g, d, tk, os⟩ := s
  refine wpAny_call (codeAny_of_tree ?_)
  show wpAny _ A.in1 (callAny (.ref q) ⟨rest, []⟩) _ _ _
  simp only [callAny]
  refine wpAny_bind (wpAny_load hq ?_)
  simp only [kxs_mw, show (Value.type "method-wrapper" == Value.type "method" || Value.type "method-wrapper" == Value.type "builtin_function_or_method" || Value.type "method-wrapper" == Value.type "method-wrapper") = true by decide, if_true]
  refine PySem.W.KFB.if_so (by decide) (wpAny_bind (PySem.W.check_bound_init F.excBase_ValueError.toExcCallFacts hC he rfl (wpAny_bind (wpAny_pure (wpAny_pure ?_)))))
  refine ⟨plainId_quiet F.excBase_ValueError.init.plain _, codeAny_builtin F.excBase_ValueError.initEntry ?_⟩
  exact PySem.W.exc_init_tree (cls := .ref C) (t0 := t0) (dv := none) (c2 := .none) (c3 := .none) (b4 := .bool false) he hz fun h' k e' _ => h h' k e'
theorem aim_init (M : Mod K mg base) (hbk : ∀ b o, base.get? b = some o → s.heap.get? b = some o) (Z : AimI P K st f D) (c : AimC K f D C) (hsup : mg "super" = none) (hdep : A.depth < recursionLimit) (he : s.heap.get? e = some (HandSPX.excO C t0)) (hbe : base.get? e = none)
    (hR : ∀ h' dx t1 tk, (∀ b o, b ≠ e → s.heap.get? b = some o → h'.get? b = some o) → s.heap.objs.size ≤ dx → dx ≠ e → h'.get? e = some ({ cls := .ref C, dict := some dx, data := .fields #[.ref t1, .none, .none, .none, .bool false, .none] } : Obj) →
      h'.Ns1 dx (fun y => if y = "value" then some u else none) → R (.ok (.ret .none)) ⟨h', s.gens, s.drawn, tk, s.os⟩) : codeAny (model P w) A (.call (.ref f) ⟨[.ref e, u], []⟩) R s := by
  obtain ⟨⟨⟨p1, p2, p3, p4, p5, p6, p7, p8, p9, p10, m, jj, hbody, hev⟩, hsc, ⟨a0, b0, q1, q2, hps⟩⟩, ⟨oc, od, an, osl, kV, doc, pm, ct, cc, cda, ccl, cl, cdd, cld, ccs, csl, vs, file, tf, cdD, lf, hcd, lcd, hvs, hfile, lcc, hD⟩, tI, htop, hthird⟩ := Z
  have X : K.In s.heap := M.kin.keeps hbk
  have lim : s.heap.NoLimit := M.nolimit.keeps hbk
  rw [hbody, hsc, hps] at lf
  obtain ⟨nm, qn, NN, bs, bm, sn, sub, ab, col, dd, k0, k1, k2, k3, k5, lC, hbm⟩ := c.cls
  have hcl : PySem.W.clsIn K C = some { name := nm, bases := bs, mro := .ref C :: bm, ns := NN, qualname := qn, hasDict := true, slotNames := sn, subclasses := sub, abstract := ab, collection := col, hasDel := false } := by unfold PySem.W.clsIn; rw [lC] <;> rfl
  have hloc : ∀ x ∈ [(("self" : Str), Value.ref e), (("value" : Str), u)], List.lookup x.1 [(("self" : Str), NameKind.local), ("value", .local), ("__class__", .free), ("super", .globalImplicit)] = some .local := by
    intro x hx
    rcases List.mem_cons.mp hx with z | hx
    · subst z
      rfl
    · rcases List.mem_cons.mp hx with z | hx
      · subst z
        rfl
      · cases hx
  have hcell : ∀ x ∈ [(("self" : Str), NameKind.local), (("value" : Str), NameKind.local), (("__class__" : Str), NameKind.free), (("super" : Str), NameKind.globalImplicit)], x.2 ≠ .cell := by decide
  refine ks_codeAny_call_defAt (binds := [("self", .ref e), ("value", u)]) hdep (X _ _ lf) rfl lim (PySem.W.codeRec_of X hcd) rfl (.of_eq rfl) (fun x hx => hcell x hx) hloc (fun h0 hns hk0 => ?_)
  have X0 : K.In h0 := X.keeps hk0
  have hb0 : ∀ b o, base.get? b = some o → h0.get? b = some o := fun b o q => hk0 b o (hbk b o q)
  have he0 := hk0 _ _ he
  obtain ⟨oD, hD1, hD2⟩ : ∃ oD, h0.get? D = some oD ∧ oD.data = .cls cdD := by
    unfold PySem.W.clsIn at hD
    split at hD
    · rename_i cx dx cd' sl ho
      cases hD
      exact ⟨_, X0 _ _ ho, rfl⟩
    · cases hD
  obtain ⟨pl, hev⟩ := hev (callEnv (PySem.W.fnX "__init__" "AimError.__init__" { posonlyargs := [], args := [{ arg := "self", annotation := a0, pos := q1 }, { arg := "value", annotation := b0, pos := q2 }], vararg := none, kwonlyargs := [], kw_defaults := [], kwarg := none, defaults := [] }
    [.Expr (.Call (.Attribute (.Call (.Name "super" p1) [] [] p2) "__init__" p3) [.Constant (.str m) jj p4] [] p5) p6, .Assign [.Attribute (.Name "self" p7) "value" p8] (.Name "value" p9) p10]
    { kind := .function, names := [("self", .local), ("value", .local), ("__class__", .free), ("super", .globalImplicit)], isGenerator := false, isCoroutine := false } [("__class__", cc)] .none kV doc pm an (.ref cda) ct) s.heap.objs.size f)
  refine ks_wpAt_execs_cons (ks_wpAt_Expr_any (ks_wpAt_MethodCall (ks_wpAt_super_base rfl rfl rfl rfl (X0 _ _ lf) rfl rfl rfl (X0 _ _ lcd) rfl hvs hfile htop ?_) hev))
  obtain ⟨mb, hmb, hbb⟩ := M.blt
  refine PySem.W.ks_loadName_global rfl rfl (Calls.loadGlobal_builtin (M.glob.keeps hb0) hsup (hmb.keeps hb0) ((hbb "super" (by decide)).trans (by rfl)) ⟨rfl, ?_⟩)
  refine wpAny_loadName_free rfl rfl rfl ⟨_, X0 _ _ lcc, rfl⟩ ?_
  refine wpAny_loadName_local rfl rfl hns rfl ?_
  refine ks_wpAny_isType_cls hD1 hD2 ⟨rfl, ?_⟩
  refine ks_wpAny_call_super hD1 hD2 he0 rfl (fun _ z => by cases z) (PySem.W.looks_mroIn X0 c.sub) (fun h1 hso hk1 => ?_)
  have X1 := X0.keeps hk1
  have he1 := hk1 _ _ he0
  have LI : PySem.W.Looks (model P w) h1 (isInstance (.ref e) (.type "ValueError")) true := by
    have I : PySem.W.InstAt h1 e (HandSPX.excO C t0) C none := ⟨he1, rfl, rfl, trivial⟩
    exact I.type.andThen (PySem.W.looks_subIn X1 c.ve)
  have hne : e ≠ C := by
    intro z
    have y := X1 _ _ lC
    rw [← z, he1] at y
    cases y
  have hsup2 : PySem.W.alongIn K "__init__" (((Value.ref C :: bm).dropWhile (· != .ref D)).drop 1) = some (some (.builtin "ValueError.__init__")) := by
    have y := c.sup
    unfold PySem.W.ks_superIn at y
    rw [hcl] at y
    exact y
  refine PySem.W.kxs_getMethod PySem.W.kxs_ValueError hso (PySem.W.looks_opaque X1 hthird) (l₀ := Value.ref C :: bm) (fun A Q E s k q => wpAny_bind ((PySem.W.looks_clsIn X1 hcl) A _ E s k (wpAny_pure q))) rfl X1 hsup2 LI hne (by decide) ?_
  refine PySem.W.kxs_callWith (i := "ValueError.__init__") (x := e) rfl ?_
  refine Calls.evalArgs_plain ?_
  refine Calls.spliced_cons ?_
  refine Calls.Constant_str (x := m) (k := jj) (pos := p4) ?_
  refine Calls.spliced_nil ?_
  refine ⟨Heap.get?_push_at rfl rfl, ?_⟩
  have X2 : K.In (h1.push (kxs_mw "ValueError.__init__" e)) := X1.keeps fun b o q => Heap.get?_push_of_some _ q
  refine call_mw ⟨_, _, _, _, _, _, _, _, _, _, _, _, _, _, _, X2 _ _ lC⟩ (Heap.get?_push_of_some _ he1) (Heap.get?_push_at rfl rfl) (by show 1 ≤ sizeLine; decide) (fun h2 hk2 he2 => ?_)
  have kk : ∀ b o, b ≠ e → h0.get? b = some o → h2.get? b = some o := fun b o hb q => hk2 b o hb (Heap.get?_push_of_some _ (hk1 b o q))
  have nF : s.heap.objs.size ≠ e := (Nat.ne_of_lt (Heap.lt_size he)).symm
  have X3 : K.In h2 := fun a o q => by
    by_cases z : a = e
    · rw [z] at q
      have y := M.kin _ _ q
      rw [hbe] at y
      cases y
    · exact kk a o z (X0 a o q)
  have hns2 : h2.Ns s.heap.objs.size (fun x => ([(("self" : Str), Value.ref e), (("value" : Str), u)] : List (Str × Value)).reverse.lookup x) := by
    obtain ⟨o, es, ep, ho, r⟩ := hns
    exact ⟨o, es, ep, kk _ _ nF ho, r⟩
  refine wpAt_of_wpAny (wpAny_execs_cons (plainObj_wpAny_Assign_Attribute (wpAny_Name (wpAny_loadName_local rfl rfl hns2 rfl (wpAny_Name (wpAny_loadName_local rfl rfl hns2 rfl ?_))))))
  refine PySem.W.set_plain X3 (od := none) ⟨he2, rfl, rfl, trivial⟩ c.sa ?_
  have big : s.heap.objs.size ≤ h2.objs.size := by
    obtain ⟨o, es, ep, ho, _⟩ := hns2
    exact Nat.le_of_lt (Heap.lt_size ho)
  refine HandSPX.exc_osa X3 he2 hcl (show HandSPX.refsVE (.ref C :: bm) = true from hbm) rfl c.nv (fun h' tk' dx k dn dne hx hn => ?_)
  refine wpAny_execs_nil ?_
  exact hR h' dx _ tk' (fun b o hb q => k b o hb (kk b o hb (hk0 b o q))) (Nat.le_trans big dn) dne hx hn
end
end Aim

namespace Aim
open PySem PySem.Spec PyProof.Rows L2
/-- an error object of the class cls, its dict at d, at a -/
def XcV (cls : Value) (d : Option Addr) (a : Addr) : HO := .ext fun h => ∃ (oe : Obj) (vs : Array Value), h.get? a = some oe ∧ Zc cls d oe ∧ oe.data = .fields vs
theorem XcV.ok {P : Program} {w : World} {H : Hp} {h : Heap} {a : Addr} {cls : Value} {d : Option Addr} {oe : Obj} {vs : Array Value} (e : h.get? a = some oe) (z : Zc cls d oe) (q : oe.data = .fields vs) : ObjOk P w H h a (XcV cls d a) :=
  ⟨⟨oe, vs, e, z, q⟩, ⟨oe, e⟩, fun _ _ ⟨o, v, x, y⟩ k => ⟨o, v, k o x, y⟩⟩
theorem XcV.at {P : Program} {w : World} {H : Hp} {h : Heap} {a : Addr} {cls : Value} {d : Option Addr} (hok : HOk P w H h) (e : H a = some (XcV cls d a)) : ∃ (oe : Obj) (vs : Array Value), h.get? a = some oe ∧ Zc cls d oe ∧ oe.data = .fields vs := by
  obtain ⟨x, _, _⟩ := (show ObjOk P w H h a (XcV cls d a) from hok a _ e)
  exact x
theorem xcv_np {cls : Value} {d : Option Addr} {n : Nat} {a : Addr} : XcV cls d a ≠ PotO n a := fun z => by
  unfold XcV PotO at z
  injection z with z
  -- a heap with a pot at a bears no error there
  obtain ⟨h, hh⟩ : ∃ h : Heap, h.get? a = some { cls := .type "list", data := .seq #[.int 0 0, .int 0 0, .int 0 0] 0 } := ⟨⟨Array.replicate (a + 1) { cls := .type "list", data := .seq #[.int 0 0, .int 0 0, .int 0 0] 0 }, {}⟩, by simp [Heap.get?]⟩
  have y := congrFun z h
  have q : ∃ (oe : Obj) (vs : Array Value), h.get? a = some oe ∧ Zc cls d oe ∧ oe.data = .fields vs := by
    rw [y]
    exact ⟨0, 0, 0, 0, 0, 0, 0, hh, ⟨by omega, by decide, by decide, by omega, by omega⟩⟩
  obtain ⟨oe, vs, e1, _, e2⟩ := q
  rw [hh] at e1
  cases e1
  cases e2
section
variable {X : Cx} {pins : List (Addr × Obj)} {σ : L2.St} {H : Hp} {s : Shared}
/-- an object that nobody tracks is tracked from now on -/
theorem track {a : Addr} {o : HO} (I : Inv X pins σ H s) (na : H a = none) (n0 : X.s_0.heap.get? a = none) (nL : a ≠ X.env.locals) (nc : ∀ x c, X.env.cells.lookup x = some c → c ≠ a) (np : ∀ p ∈ X.pn ++ pins, p.1 ≠ a)
    (new : ObjOk X.prog X.w (upd H a o) s.heap a o) : Inv X pins σ (upd H a o) s := by
  have st : ∀ {b : Addr} {u : HO}, H b = some u → upd H a o b = some u := fun {b u} e => by
    rw [upd_ne (ne_of_none e na)]
    exact e
  refine ⟨I.ok, I.os, I.bare, ⟨I.base.keep, I.base.slot, fun b u e n x => ?_, I.base.there, fun b xs e => st (I.base.tups b xs e), fun b q u e => st (I.base.frzs b q u e), fun b ps e => ?_⟩, I.loc, I.cell, ?_, fun x c e => ?_, fun p hp => ?_, fun b u e => ?_, I.len⟩
  · rw [upd_ne (fun z => by rw [z, n0] at e; cases e)]
    exact I.base.free b u e n x
  · obtain ⟨m, q⟩ := I.base.tbls b ps e
    exact ⟨m, st q⟩
  · rw [upd_ne nL.symm]
    exact I.free
  · rw [upd_ne (nc x c e)]
    exact I.freeC x c e
  · obtain ⟨e, n, r⟩ := I.pin p hp
    exact ⟨e, by rw [upd_ne (np p hp)]; exact n, r⟩
  · by_cases hb : b = a
    · subst hb
      rw [upd_same] at e
      cases e
      exact new
    · rw [upd_ne hb] at e
      exact (I.hok b u e).stay (fun _ _ _ q => q) (fun _ q => st q) fun _ _ q => st q
end
/-! ### the errors of the package made: raised, and as values -/
section
variable {X : Cx} {x : Str} {f C D : Addr} {st : Stmt} {e : Expr} {te : TE} {p pos : Pos}
theorem made_aim {pins : List (Addr × Obj)} {σ : L2.St} {H : Hp} {s : Shared} {v : V} {u : Value} {Q : Value → Shared → Prop} (Z : AimI X.prog X.K st f D) (c : AimC X.K f D C) (hsup : X.mg "super" = none) (hr : Room 1 X.A) (I : Inv X pins σ H s) (rv : RelV v u)
    (h : ∀ (a dx t1 : Addr) (h' : Heap) (tk : Nat), H a = none → H dx = none → dx ≠ a → s.heap.get? a = none → (∀ b o, s.heap.get? b = some o → h'.get? b = some o) → s.heap.objs.size ≤ a → s.heap.objs.size ≤ dx →
      h'.get? a = some ({ cls := .ref C, dict := some dx, data := .fields #[.ref t1, .none, .none, .none, .bool false, .none] } : Obj) → (∀ (G : Hp) (g : Heap), (∀ o, h'.get? dx = some o → g.get? dx = some o) → ObjOk X.prog X.w G g dx (.xd [("value", v)])) → Q (.ref a) { s with heap := h', toks := tk }) :
    wpAny (model X.prog X.w) X.A (call (.ref C) [u]) Q X.xe s := by
  obtain ⟨nm, q, N, bs, bm, sn, sub, ab, col, dd, k0, k1, k2, k3, k5, hC, hbm⟩ := c.cls
  obtain ⟨hp, g, dr, tk, os⟩ := s
  have kk : ∀ b o, hp.get? b = some o → ((hp.push (PySem.W.kdv_tup [u])).push (HandSPX.excO C hp.objs.size)).get? b = some o := fun b o e => Heap.get?_push_of_some _ (Heap.get?_push_of_some _ e)
  have hget : ((hp.push (PySem.W.kdv_tup [u])).push (HandSPX.excO C hp.objs.size)).get? (hp.objs.size + 1) = some (HandSPX.excO C hp.objs.size) := by heap_get
  have hsz : hp.objs.size ≤ hp.objs.size + 1 := Nat.le_succ _
  have gone : hp.get? (hp.objs.size + 1) = none := by
    cases z : hp.get? (hp.objs.size + 1) with
    | none => rfl
    | some o => exact absurd (Nat.lt_of_lt_of_le (Heap.lt_size z) hsz) (Nat.lt_irrefl _)
  have bn : X.base.get? (hp.objs.size + 1) = none := by
    cases z : X.base.get? (hp.objs.size + 1) with
    | none => rfl
    | some o =>
      have y := I.bk _ _ z
      rw [gone] at y
      cases y
  refine wpAny_call (HandSPX.call_own F.excBase_ValueError (fun Y => HandSPX.refsVE_contains Y bm hbm) (I.kIn _ _ hC) (PySem.W.looks_findIn I.kIn c.ini) (fun self => PySem.W.bind_fn I.kIn self Z.tI) (by show 1 ≤ sizeLine; decide) ?_)
  refine aim_init (mg := X.mg) (base := X.base) (t0 := hp.objs.size) I.mod (fun b o q => kk b o (I.bk b o q)) Z c hsup ?_ hget bn (fun h' dx t1 tk' k hd hne hx hn => ⟨rfl, ?_⟩)
  · have y := hr.dp
    rw [make_depth]
    omega
  have ksz : hp.objs.size ≤ ((hp.push (PySem.W.kdv_tup [u])).push (HandSPX.excO C hp.objs.size)).objs.size := by
    rw [Heap.size_push, Heap.size_push]
    omega
  have hd2 : hp.objs.size ≤ dx := Nat.le_trans ksz hd
  refine h (hp.objs.size + 1) dx t1 h' tk' (I.hok.fresh hsz) (I.hok.fresh hd2) hne gone (fun b o q => k b o (fun z => by rw [z, gone] at q; cases q) (kk b o q)) hsz hd2 hx (fun G g' hg => ?_)
  exact ⟨_, hn.at hg, relO_put (fs := []) rv fun _ => True.intro⟩
/-- C(e), to be raised -/
def tMkA (C : Addr) (te : TE) : L2.St → Hp → XK → Prop := fun σ H Q => te σ H fun v H1 => ∀ d, H1 d = none → Q (.ref C) (some d) (upd H1 d (.xd [("value", v)]))
theorem pmk_aim (Z : AimI X.prog X.K st f D) (c : AimC X.K f D C) (hsup : X.mg "super" = none) (hr : Room 1 X.A) (hg : Gl X x) (hm : X.mg x = some (.ref C)) (he : PE X e te)
    (hdb : (x == ("__debug__" : Str)) = false := by decide) (hs : starEach [e] X.env = (false, eval e X.env) :: starEach [] X.env := by rfl) : PMk X (.Call (.Name x p) [e] [] pos) (tMkA C te) := by
  intro pins s σ H Q I h
  refine wpAny_Call_Name_kw (ld_glob I hg hm ?_ hdb)
  refine PySem.W.callWith_K (h₀ := X.base) I.ok.mod.kin c.kC ?_ hs (by rfl)
  rw [hs]
  refine Calls.spliced_cons (thn (he.run pins s σ H _ I h) fun u s1 ⟨v, H1, I1, rv, q1⟩ => ?_)
  refine Calls.spliced_nil ⟨I1.kIn, ?_⟩
  refine made_aim Z c hsup hr I1 rv fun a dx t1 h' tk na nd ne ga k hsz hsd hx hxd => ?_
  obtain ⟨G, g1, g2⟩ := restrict h' fun b => decide (b ≠ a)
  have gk : ∀ b, b ≠ a → G.get? b = h'.get? b := fun b hb => g1 b (decide_eq_true hb)
  have ge : G.get? a = none := g2 a (by simp)
  have J := I1.laid (t' := tk) (a := dx) (o := .xd [("value", v)]) (h' := G) (fun b o q => by rw [gk b (fun z => by rw [z, ga] at q; cases q)]; exact k b o q) hsd (hxd _ G fun o q => by rw [gk dx ne]; exact q)
  refine ⟨a, _, _, _, _, .ref C, some dx, rfl, J, fun b o q => ?_, ge, hx, ⟨rfl, rfl⟩, rfl, rfl, ?_, rfl, I1.bare, raises_own c.toOexC.exC c.tyC, q1 dx nd⟩
  · by_cases hb : b = a
    · rw [hb, ge] at q
      cases q
    · rw [← gk b hb]
      exact q
  · rw [upd_ne ne.symm]
    exact na
/-- C(e) as a value -/
def tAimV (C : Addr) (te : TE) : TE := fun σ H Q => te σ H fun v H1 => ∀ a d, H1 a = none → H1 d = none → d ≠ a → Q (.ref a) (upd (upd H1 d (.xd [("value", v)])) a (XcV (.ref C) (some d) a))
theorem pe_aim (Z : AimI X.prog X.K st f D) (c : AimC X.K f D C) (hsup : X.mg "super" = none) (hr : Room 1 X.A) (hg : Gl X x) (hm : X.mg x = some (.ref C)) (he : PE X e te)
    (hdb : (x == ("__debug__" : Str)) = false := by decide) (hs : starEach [e] X.env = (false, eval e X.env) :: starEach [] X.env := by rfl) : PE X (.Call (.Name x p) [e] [] pos) (tAimV C te) := by
  refine ⟨fun pins s σ H Q I h => ?_⟩
  refine wpAny_Call_Name_kw (ld_glob I hg hm ?_ hdb)
  refine PySem.W.callWith_K (h₀ := X.base) I.ok.mod.kin c.kC ?_ hs (by rfl)
  rw [hs]
  refine Calls.spliced_cons (thn (he.run pins s σ H _ I h) fun u s1 ⟨v, H1, I1, rv, q1⟩ => ?_)
  refine Calls.spliced_nil ⟨I1.kIn, ?_⟩
  refine made_aim Z c hsup hr I1 rv fun a dx t1 h' tk na nd ne ga k hsz hsd hx hxd => ?_
  obtain ⟨G, g1, g2⟩ := restrict h' fun b => decide (b ≠ a)
  have gk : ∀ b, b ≠ a → G.get? b = h'.get? b := fun b hb => g1 b (decide_eq_true hb)
  have ge : G.get? a = none := g2 a (by simp)
  have J := I1.laid (t' := tk) (a := dx) (o := .xd [("value", v)]) (h' := G) (fun b o q => by rw [gk b (fun z => by rw [z, ga] at q; cases q)]; exact k b o q) hsd (hxd _ G fun o q => by rw [gk dx ne]; exact q)
  have na2 : upd H1 dx (.xd [("value", v)]) a = none := by
    rw [upd_ne ne.symm]
    exact na
  have kG : ∀ b o, G.get? b = some o → h'.get? b = some o := fun b o q => by
    by_cases hb : b = a
    · rw [hb, ge] at q
      cases q
    · rw [← gk b hb]
      exact q
  exact ⟨.ref a, _, J.laidN (t' := tk) (h' := h') kG ge na2 (XcV.ok hx ⟨rfl, rfl⟩ rfl), rfl, q1 a dx na nd ne⟩
end
/-! ### try: .. except x as n: .., the error's object known behind the suite -/
/-- what the clause wishes of an error of the body -/
def wKeep (K : PySem.W.Frag) (c : Value) (n i : Nat) (ts : Addr → TS) (Wout : WX) (D : Ends) : WX := fun cls d σ H =>
  ∃ b, PySem.W.exmOne K cls c = some b ∧ (b = true → ∀ a, H a = none → σ.length = n → ts a { nx := fun σ' H' => D.nx (σ'.set i none) (upd H' a (XcV cls d a)), rt := fun _ _ => False } (σ.set i (some (.ref a))) H) ∧ (b = false → Wout cls d σ H)
section
variable {X : Cx} {x n : Str} {c : Value} {i : Nat} {body suite : List Stmt} {b0 : Stmt} {np pos pos' : Pos} {tb : WX → TS} {ts : Addr → TS} {Wout : WX}
theorem ps_try_keep (hs : X.stack = X.env :: X.outer) (hf : X.env.frame = some X.env.locals) (hex : X.ex = []) (hN : X.N.Nodup) (hi : X.N[i]? = some n) (hln : X.env.kindOf n = some .local) (hc : Gl X x) (hmx : X.mg x = some c) (hxd : (x == ("__debug__" : Str)) = false) (tk : Takes X Wout)
    (hb : ∀ (W : WX) (pn : List (Addr × Obj)) (xe : Value → Shared → Prop), Takes (X.tr pn xe) W → PassesOwn (model X.prog X.w) X.A X.env xe → PSs (X.tr pn xe) body (tb W))
    (hsu : ∀ (a : Addr) (oe : Obj) (pn : List (Addr × Obj)), PSs (X.suite a ((a, oe) :: pn)) (b0 :: suite) (ts a)) :
    PS X (.Try body [.ExceptHandler (some (.Name x np)) (some n) (b0 :: suite) pos'] [] [] pos) (fun D σ H => tb (wKeep X.K c X.N.length i ts Wout D) D σ H) := by
  constructor
  intro pins s σ H D I h
  have ok := I.ok
  have frA : X.A.frames = some (X.env :: X.outer) := by rw [ok.frames, hs]
  refine wpAny_Try_except ?_
  have run := (hb (wKeep X.K c X.N.length i ts Wout D) (X.pn ++ pins) (fun e s1 => wpAny (model X.prog X.w) X.A (noteFrame e X.env) (fun _ s2 => wpAny (model X.prog X.w) X.A (setFlight e none) (fun _ s3 =>
    wpAny (model X.prog X.w) X.A (handleBy e X.env [.ExceptHandler (some (.Name x np)) (some n) (b0 :: suite) pos']) (SP X pins D) X.xe s3) X.xe s2) X.xe s1) ?_ PassesOwn.looking).run [] s σ H D (I.toTry _) h
  · refine wpAny_mono run (fun f s1 hsp => ?_) fun _ _ he => he
    rcases f with _ | _ | _ | u
    all_goals first
      | (obtain ⟨σ', H', J', q⟩ := hsp; exact wpAny_execs_nil ⟨σ', H', J'.ofTry ok, q⟩)
      | (obtain ⟨σ', H', J', q⟩ := hsp; exact ⟨σ', H', J'.ofTry ok, q⟩)
      | (obtain ⟨v, σ', H', J', r, q⟩ := hsp; exact ⟨v, σ', H', J'.ofTry ok, r, q⟩)
  · -- an error of the body
    rintro u s' ⟨a, B, sI, pins', σ', H', cls, d, rfl, J', nb, up, sky, na, os, ag, b, hb1, hyes, hno⟩
    have J : Inv X pins σ' H' sI := J'.ofTry ok
    rw [show (X.tr (X.pn ++ pins) _).stack = X.env :: X.outer from hs] at sky
    refine Sky.land Zc.steady frA hf sky fun h3 fl3 up3 => ?_
    have J3 : Inv X pins σ' H' { s' with heap := h3 } := J.landed nb fl3.1 (up.trans up3) os ag
    obtain ⟨oe3, vs3, he3, hz3, hd3⟩ := fl3.there
    have nfr : a ∉ frs (X.env :: X.outer) := fun hm => by
      obtain ⟨_, o', e', hnf⟩ := fl3.2.2.1.mem hm
      rw [he3] at e'
      cases e'
      exact hnf _ hd3
    have nL : a ≠ X.env.locals := fun z => nfr (List.mem_filterMap.mpr ⟨X.env, List.mem_cons_self, by rw [hf, z]⟩)
    have nF : a ∉ X.fs := fun hm => by
      obtain ⟨e, he, q⟩ := List.mem_filterMap.mp hm
      exact nfr (List.mem_filterMap.mpr ⟨e, List.mem_cons_of_mem _ he, q⟩)
    -- the object is none of those ahead
    have nI : sI.heap.get? a = none := by
      cases z : sI.heap.get? a with
      | none => rfl
      | some o =>
        have y := nb a o z (by rw [show (X.tr (X.pn ++ pins) _).stack = X.env :: X.outer from hs]; exact nfr)
        rw [fl3.2.1] at y
        cases y
    have n0 : X.s_0.heap.get? a = none := by
      cases z : X.s_0.heap.get? a with
      | none => rfl
      | some o =>
        obtain ⟨o', y⟩ := J.base.there a o z (by rw [hex]; exact fun z => nomatch z)
        rw [nI] at y
        cases y
    have np' : ∀ p ∈ X.pn ++ pins, p.1 ≠ a := fun p hp z => by
      obtain ⟨y, _⟩ := J.pin p hp
      rw [z, nI] at y
      cases y
    have S3 := J3.suite he3 hd3 na nL nF
    refine wpAny_handleBy_cons (codeAny_handlers_test ?_) (by intro q; cases q)
    have LT : PySem.W.Looks (model X.prog X.w) h3 (typeOf (.ref a)) cls := fun A Q E s k q => wpAny_typeOf_ref (k _ _ he3) (by rw [hz3.1]; exact q)
    have LM := PySem.W.exm_one (M := model X.prog X.w) J3.kIn LT hb1
    refine ld_glob (X := X.suite a ((a, oe3) :: (X.pn ++ pins))) S3 hc hmx (LM.here ?_) hxd
    cases b with
    | true =>
      refine codeAny_handlers_suite_as (HandSPX.lands_againZ fl3 fun h4 fl4 up4 => ?_)
      have J4 : Inv X pins σ' H' { s' with heap := h4 } := J.landed nb fl4.1 ((up.trans up3).trans up4) os ag
      obtain ⟨oe4, vs4, he4, hz4, hd4⟩ := fl4.there
      refine store_ok (X := X.suite a ((a, oe4) :: (X.pn ++ pins))) (v := .ref a) (J4.suite he4 hd4 na nL nF) hN hi (.inl hln) rfl (fun s5 S5 => ?_) (.inr hln)
      refine wpAny_mono ((hsu a oe4 (X.pn ++ pins)).run [] s5 _ H' _ S5 (hyes rfl a na J.len)) (fun f s6 hsp => ?_) fun _ _ z => False.elim z
      rcases f with _ | _ | _ | u
      · obtain ⟨σ6, H6, S6, q6⟩ := hsp
        obtain ⟨p1, p2, _⟩ := S6.pin (a, oe4) (List.mem_append_left _ List.mem_cons_self)
        have T6 := track (o := XcV cls d a) (S6.unsuite ok) p2 n0 nL (fun y cy e z => by
          obtain ⟨vc, oc, o1, o2⟩ := S6.cell y cy e
          rw [z] at o1
          have e1 : s6.heap.get? a = some oe4 := p1
          rw [e1] at o1
          cases o1
          rw [hd4] at o2
          cases o2) np' (XcV.ok (show s6.heap.get? a = some oe4 from p1) hz4 hd4)
        exact gone_ok T6 hN hi hln fun s7 J7 => ⟨_, _, J7, q6⟩
      · obtain ⟨_, _, _, q⟩ := hsp
        exact False.elim q
      · obtain ⟨_, _, _, q⟩ := hsp
        exact False.elim q
      · obtain ⟨_, _, _, _, _, q⟩ := hsp
        exact False.elim q
    | false =>
      refine wpAny_handleBy_nil ?_
      obtain ⟨k1, k2, k3, oe, vs, T, oT, ts', he, hz, hd, h1, hr⟩ := id fl3
      unfold PySem.passOn
      refine wpAny_bind (wpAny_field he hd h1 ?_)
      rw [if_neg (show ¬ ((Value.ref T == Value.none) = true) from by simp)]
      refine wpAny_bind ?_
      rw [hf]
      refine HandSPX.setFlight_upZ fl3 fun h4 hh4 up4 => wpAny_throw (tk _ _ ?_)
      exact ⟨a, B, sI, pins, σ', H', cls, d, rfl, J, nb, (up.trans up3).trans up4, .inr (.inr (by rw [hs]; exact hh4)), na, os, ag, hno rfl⟩
end
/-! ### an error object asked -/
section
variable {X : Cx}
/-- e.value -/
def tXcv (K : PySem.W.Frag) (te : TE) : TE := fun σ H Q => te σ H fun x H1 => ∃ (a C d f D : Addr) (v : V), x = .ref a ∧ H1 a = some (XcV (.ref C) (some d) a) ∧ AimC K f D C ∧ H1 d = some (.xd [("value", v)]) ∧ Q v H1
theorem pe_xcv {e : Expr} {te : TE} {pos : Pos} (he : PE X e te) (hb : attributeBase e "value" X.env (eval e X.env) = eval e X.env := by rfl) : PE X (.Attribute e "value" pos) (tXcv X.K te) := by
  refine ⟨fun pins s σ H Q I h => attr_of hb (thn (he.run pins s σ H _ I h) fun u s1 ⟨x, H1, I1, rx, a, C, d, f, D, v, ex, ha, c, hd, q⟩ => ?_)⟩
  subst ex
  obtain rfl : u = Value.ref a := rx
  obtain ⟨oe, vs, hg, hz, hv⟩ := XcV.at I1.hok ha
  obtain ⟨mA, hns, hr⟩ := (show ObjOk X.prog X.w H1 s1.heap d (.xd [("value", v)]) from I1.hok d _ hd)
  obtain ⟨od, ho, hl⟩ := lookIn_ns hns
  obtain ⟨w, hw, rw'⟩ := RelO.some_of (v := v) (o := mA "value") (by have z := hr "value"; simpa [List.lookup] using z)
  have J : PySem.W.InstAt s1.heap a oe C (some od) := ⟨hg, hz.1, by unfold PySem.W.notCls; rw [hv] <;> rfl, by rw [hz.2]; exact ho⟩
  exact HandSPX.exc_get I1.kIn J c.ga c.gg c.toXfC.exC (PySem.W.findObj_own c.hdC c.nv rfl (by rw [hl, hw])) (handed_of rw') ⟨v, H1, I1.tok _, rw', q⟩
/-- isinstance(e, C) -/
def rIsX (K : PySem.W.Frag) : List V → Hp → VK → Prop := fun xs H Q => ∃ (a C f D : Addr) (d : Option Addr) (k : V) (kv : Value) (b : Bool), xs = [.ref a, k] ∧ H a = some (XcV (.ref C) d a) ∧ AimC K f D C ∧ (∃ dd fs, d = some dd ∧ H dd = some (.xd fs)) ∧ ClsV k kv ∧ PySem.W.kitOne K (.ref C) kv = some b ∧ Q (.bl b) H
theorem call_isX : CallR X (.builtin "isinstance") (rIsX X.K) := by
  intro pins s σ H xs us Q I r ⟨a, C, f, D, d, k, kv, b, ex, ha, c, ⟨dd, fs, ed, hdd⟩, hk, e, q⟩
  subst ex
  subst ed
  obtain ⟨u1, u2, rfl, r1, r2⟩ := vals2 r
  obtain rfl : u1 = Value.ref a := r1
  have e2 := hk.eq r2
  subst e2
  obtain ⟨oe, vs, hg, hz, hv⟩ := XcV.at I.hok ha
  obtain ⟨mA, hns, _⟩ := (show ObjOk X.prog X.w H s.heap dd (.xd fs) from I.hok dd _ hdd)
  obtain ⟨od, ho, _⟩ := lookIn_ns hns
  have J : PySem.W.InstAt s.heap a oe C (some od) := ⟨hg, hz.1, by unfold PySem.W.notCls; rw [hv] <;> rfl, by rw [hz.2]; exact ho⟩
  have hcl : (PySem.W.clsIn X.K C).isSome = true := by
    obtain ⟨cd, hc, _⟩ := PySem.W.any_some c.hdC
    rw [hc]
    rfl
  exact PySem.W.kia_one (PySem.W.kitx_exc hcl c.ga c.gg c.toXfC.exC c.own c.get c.tak c.obj) I.kIn J e (fun z => nomatch z) fun tk => ⟨.bl b, H, I.tok tk, rfl, q⟩
end
end Aim

namespace Aim
open PySem PySem.Spec PyProof.Rows L2
/-! ### a def's promise that may ask that no repr runs around it (G) -/
structure Rn (P : Program) (w : World) (K : PySem.W.Frag) (mg : Str → Option Value) (base : Heap) (G : Bool) (k : Nat) (f : Addr) (fd : FuncData) (ps : List Str) (sp : Sp) : Prop where
  len : ∀ vs H Q E, sp vs H Q E → vs.length = ps.length
  run : ∀ {A : Around} {fr : List Env} {s : Shared} {H : Hp} {args : Args} {us : List Value} {vs : List V} {Q : VK} {E : XK}, Room k A → (G = true → A.guards = some []) → Env0 P w K mg base A fr s H → BindsTo s fd args (ps.zip us) → Vals vs us → sp vs H Q E →
    codeAny (model P w) A (.call (.ref f) args) (CR (L2.CX P w) fr P w H s Q E) s
/-- a def of the module under its name, all its parameters given by position -/
structure Df (P : Program) (w : World) (K : PySem.W.Frag) (mg : Str → Option Value) (base : Heap) (G : Bool) (k : Nat) (x : Str) (sp : Sp) : Prop where
  ex : ∃ (f : Addr) (fd : FuncData) (ps : List Str), Rn P w K mg base G k f fd ps sp ∧ mg x = some (.ref f) ∧ PySem.W.keepIn K (.ref f) = true ∧ L2.Binds K fd ps []
section
variable {P : Program} {w : World} {K : PySem.W.Frag} {mg : Str → Option Value} {base : Heap} {G : Bool}
theorem Df.mono {k j : Nat} {x : Str} {sp : Sp} (d : Df P w K mg base G k x sp) (h : k ≤ j) : Df P w K mg base G j x sp := by
  obtain ⟨f, fd, ps, F, r⟩ := d.ex
  exact ⟨f, fd, ps, ⟨F.len, fun hr => F.run (hr.mono h)⟩, r⟩
theorem Df.imp {k : Nat} {x : Str} {sp sp' : Sp} (d : Df P w K mg base G k x sp) (h : ∀ vs H Q E, sp' vs H Q E → sp vs H Q E) : Df P w K mg base G k x sp' := by
  obtain ⟨f, fd, ps, F, r⟩ := d.ex
  exact ⟨f, fd, ps, ⟨fun vs H Q E q => F.len vs H Q E (h _ _ _ _ q), fun hr hg e b v q => F.run hr hg e b v (h _ _ _ _ q)⟩, r⟩
/-- a def's promise, by its body: where it may raise -/
theorem df_okX {x : Str} {st : Stmt} {f : Addr} {fd : FuncData} {N ps : List Str} {k : Nat} {sp : Sp} (F : L2.Fun K x x st f fd) (hm : mg x = some (.ref f)) (hb : L2.Binds K fd ps []) (S : FnScope N ps (defScope st)) (len : ∀ vs H Q E, sp vs H Q E → vs.length = ps.length)
    (body : ∀ (cdv : Value) (A : Around) (outer : List Env) (s : Shared) (H : Hp) (vs : List V) (Q : VK) (E : XK), Room k (A.deeper (envOfC x (defScope st) s.heap.objs.size f cdv)) → (G = true → A.guards = some []) → sp vs H Q E →
      ∃ t, PSs (cxOf (L2.CX P w) P w K mg base N x (defScope st) f cdv A outer s H E) (defBody st) t ∧ t { nx := fun _ H' => Q .non H', rt := Q } (start N vs) H) : Df P w K mg base G (k + 1) x sp := by
  obtain ⟨oc, od, kV, doc, pm, an, cdv, ct, osl, rfl, lk, hcd⟩ := F.ex
  refine ⟨f, _, ps, ⟨len, fun hr hg e0 b r q => LamX.run_ofS lk hcd S hr e0 b r (len _ _ _ _ q) fun hr' => body cdv _ _ _ _ _ _ _ hr' hg q⟩, hm, F.kp, hb⟩
/-- .. where nothing is raised -/
theorem df_ok {x : Str} {st : Stmt} {f : Addr} {fd : FuncData} {N ps : List Str} {k : Nat} {sp : Sp} (F : L2.Fun K x x st f fd) (hm : mg x = some (.ref f)) (hb : L2.Binds K fd ps []) (S : FnScope N ps (defScope st)) (len : ∀ vs H Q E, sp vs H Q E → vs.length = ps.length)
    (body : ∀ (cdv : Value) (A : Around) (outer : List Env) (s : Shared) (H : Hp) (vs : List V) (Q : VK) (E : XK), Room k (A.deeper (envOfC x (defScope st) s.heap.objs.size f cdv)) → (G = true → A.guards = some []) → sp vs H Q E →
      ∃ t, PSs (cxOf (L2.CX P w) P w K mg base N x (defScope st) f cdv A outer s H E).nox (defBody st) t ∧ t { nx := fun _ H' => Q .non H', rt := Q } (start N vs) H) : Df P w K mg base G (k + 1) x sp :=
  df_okX F hm hb S len fun cdv A outer s H vs Q E hr hg q => by
    obtain ⟨t, h, z⟩ := body cdv A outer s H vs Q E hr hg q
    exact ⟨t, h.nox, z⟩
end
/-! ### a call that is not told of some objects -/
/-- what may be hidden: a list, a dict, a thing told by itself -/
def Hides : HO → Prop
  | .lst _ => True
  | .dK _ => True
  | .ext _ => True
  | _ => False
/-- without what stands in hid; with it again -/
def cut (hid : List Addr) (H : Hp) : Hp := fun b => if b ∈ hid then none else H b
def glue (hid : List Addr) (H H' : Hp) : Hp := fun b => if b ∈ hid then H b else H' b
section
variable {P : Program} {w : World} {H H' : Hp} {h h' : Heap} {hid : List Addr} {b : Addr} {o : HO}
theorem cut_out (n : b ∉ hid) : cut hid H b = H b := if_neg n
theorem cut_in (n : b ∈ hid) : cut hid H b = none := if_pos n
theorem glue_out (n : b ∉ hid) : glue hid H H' b = H' b := if_neg n
theorem glue_in (n : b ∈ hid) : glue hid H H' b = H b := if_pos n
theorem cut_some {u : HO} (e : cut hid H b = some u) : b ∉ hid ∧ H b = some u := by
  by_cases n : b ∈ hid
  · rw [cut_in n] at e
    cases e
  · rw [cut_out n] at e
    exact ⟨n, e⟩
/-- an object's description, told beside other ones -/
theorem ok_beside (x : ObjOk P w H h b o) (ho : ∀ c, H c = some (.own b) → H' c = some (.own b)) (ht : ∀ c xs, H c = some (.tup xs) → H' c = some (.tup xs)) : ObjOk P w H' h b o :=
  x.stay (fun _ _ _ e => e) ho ht
theorem ok_hidden (m : Hides o) (x : ObjOk P w H h b o) (k : ∀ u, h.get? b = some u → h'.get? b = some u) : ObjOk P w H' h' b o := by
  cases o with
  | lst xs =>
    obtain ⟨z, its, n, r, e⟩ := x
    exact ⟨z, its, n, r, k _ e⟩
  | dK kvs =>
    obtain ⟨z, y, vs, r, u, es, ep, e, q⟩ := x
    exact ⟨z, y, vs, r, u, es, ep, k _ e, q⟩
  | ext φ =>
    obtain ⟨p, ⟨u, e⟩, q⟩ := x
    exact ⟨q _ _ p k, ⟨u, k _ e⟩, q⟩
  | _ => exact m.elim
theorem hides_there (m : Hides o) (x : ObjOk P w H h b o) : ∃ u, h.get? b = some u := by
  cases o with
  | lst xs =>
    obtain ⟨_, _, _, _, e⟩ := x
    exact ⟨_, e⟩
  | dK kvs =>
    obtain ⟨_, _, _, _, u, _, _, e, _⟩ := x
    exact ⟨u, e⟩
  | ext φ =>
    obtain ⟨_, e, _⟩ := x
    exact e
  | _ => exact m.elim
theorem env0_cut {K : PySem.W.Frag} {mg : Str → Option Value} {base : Heap} {A : Around} {outer : List Env} {s : Shared} (m : ∀ b ∈ hid, ∀ o, H b = some o → Hides o) (e : Env0 P w K mg base A outer s H) : Env0 P w K mg base A outer s (cut hid H) := by
  refine ⟨e.frames, e.mod, fun b o q => ⟨(e.bs b o q).1, ?_⟩, e.bsz, e.funs, fun b q => ?_, fun b o q => ?_, e.bare⟩
  · unfold cut
    split
    · rfl
    · exact (e.bs b o q).2
  · unfold cut
    split
    · rfl
    · exact e.frf b q
  · obtain ⟨n, q⟩ := cut_some q
    refine ok_beside (e.hok b o q) (fun c z => ?_) fun c xs z => ?_
    · rw [cut_out fun y => (m c y _ z).elim]
      exact z
    · rw [cut_out fun y => (m c y _ z).elim]
      exact z
theorem ce_glue {outer : List Env} {s s' : Shared} {Q : VK} {u : Value} (m : ∀ b ∈ hid, ∃ o, H b = some o ∧ Hides o) (hok : HOk P w H s.heap) (frf : ∀ b ∈ frs outer, H b = none) (c : CE outer P w (cut hid H) s (fun v G => (∀ b ∈ hid, G b = none) → Q v (glue hid H G)) u s') : CE outer P w H s Q u s' := by
  obtain ⟨v, G, os, bare, un, hok', r, q⟩ := c
  have th : ∀ b ∈ hid, ∃ o, s.heap.get? b = some o := fun b hb => by
    obtain ⟨o, e, q⟩ := m b hb
    exact hides_there q (hok b o e)
  have gone : ∀ b ∈ hid, G b = none := fun b hb => by
    obtain ⟨o, e⟩ := th b hb
    exact un.free b o e (cut_in hb) (by simp)
  have kept : ∀ b ∈ hid, ∀ o, s.heap.get? b = some o → s'.heap.get? b = some o := fun b hb o e => by
    obtain ⟨u, e1, _⟩ := m b hb
    exact un.keep b o e (cut_in hb) (fun z => by rw [frf b z] at e1; cases e1) (by simp)
  have nocut : ∀ {b : Addr}, H b = none → cut hid H b = none := fun {b} e => by
    unfold cut
    split
    · rfl
    · exact e
  refine ⟨v, glue hid H G, os, bare, ⟨fun b o e n => un.keep b o e (nocut n), fun b o e n => un.slot b o e (nocut n), fun b o e n x => ?_, un.there, fun b xs e => ?_, fun b o u e => ?_, fun b ps e => ?_⟩, fun b o e => ?_, r, q gone⟩
  · by_cases hb : b ∈ hid
    · rw [glue_in hb]
      exact n
    · rw [glue_out hb]
      exact un.free b o e (nocut n) x
  · by_cases hb : b ∈ hid
    · rw [glue_in hb]
      exact e
    · rw [glue_out hb]
      exact un.tups b xs (by rw [cut_out hb]; exact e)
  · by_cases hb : b ∈ hid
    · rw [glue_in hb]
      exact e
    · rw [glue_out hb]
      exact un.frzs b o u (by rw [cut_out hb]; exact e)
  · by_cases hb : b ∈ hid
    · exact ⟨#[], by rw [glue_in hb, e, Array.append_empty]⟩
    · rw [glue_out hb]
      exact un.tbls b ps (by rw [cut_out hb]; exact e)
  · by_cases hb : b ∈ hid
    · rw [glue_in hb] at e
      obtain ⟨o', e1, e2⟩ := m b hb
      rw [e] at e1
      cases e1
      exact ok_hidden e2 (hok b o e) (kept b hb)
    · rw [glue_out hb] at e
      have out : ∀ {c : Addr} {u : HO}, G c = some u → glue hid H G c = some u := fun {c u} z => by
        rw [glue_out fun y => by rw [gone c y] at z; cases z]
        exact z
      exact ok_beside (hok' b o e) (fun c z => out z) fun c xs z => out z
end
/-- f(..): what the promise asks; hid: what the callee is not told of -/
def tDf (sp : Sp) (E : XK) (t : TA) : TE := fun σ H Q => t σ H fun vs H1 => sp vs H1 Q E ∨ ∃ hid : List Addr, (∀ b ∈ hid, ∃ o, H1 b = some o ∧ Hides o) ∧ sp vs (cut hid H1) (fun v G => (∀ b ∈ hid, G b = none) → Q v (glue hid H1 G)) E0
section
variable {X : Cx} {k j : Nat} {G : Bool} {x : Str} {sp : Sp} {E : XK} {e : Expr} {es : List Expr} {t : TA} {p pos : Pos}
theorem run_df {pins : List (Addr × Obj)} {σ : L2.St} {H : Hp} {s : Shared} {Q : VK} {f : Addr} {fd : FuncData} {ps : List Str} {us : List Value} {vs : List V} (F : Rn X.prog X.w X.K X.mg X.base G k f fd ps sp) (hr : Room k X.A) (hg : G = true → X.A.guards = some []) (hb : L2.Binds X.K fd ps [])
    (hx : Passes (L2.CX X.prog X.w) X E) (I : Inv X pins σ H s) (r : Vals vs us) (h : sp vs H Q E ∨ ∃ hid : List Addr, (∀ b ∈ hid, ∃ o, H b = some o ∧ Hides o) ∧ sp vs (cut hid H) (fun v G => (∀ b ∈ hid, G b = none) → Q v (glue hid H G)) E0) : wpAny (model X.prog X.w) X.A (call (.ref f) us) (EP X pins σ Q) X.xe s := by
  have hl : vs.length = ps.length := h.elim (F.len _ _ _ _) fun ⟨_, _, q⟩ => F.len _ _ _ _ q
  have hb' := hb s us I.kIn (by rw [List.append_nil, ← r.length]; exact hl)
  rw [List.append_nil] at hb'
  rcases h with h | ⟨hid, m, h⟩
  · refine wpAny_call (codeAny_mono (F.run (s := s) (args := ⟨us, []⟩) hr hg I.env0 hb' r h) fun y s' hq => ?_)
    match y, hq with
    | .error e, hq => exact hx pins σ H s e s' I hq
    | .ok (.ret u), hq => exact I.after hq
  · refine wpAny_call (codeAny_mono (F.run (s := s) (args := ⟨us, []⟩) hr hg (env0_cut (fun b hb o e => by obtain ⟨o', e1, e2⟩ := m b hb; rw [e] at e1; cases e1; exact e2) I.env0) hb' r h) fun y s' hq => ?_)
    match y, hq with
    | .error e, hq =>
      obtain ⟨_, _, _, _, _, _, _, _, _, _, _, _, z⟩ := hq
      exact z.elim
    | .ok (.ret u), hq => exact I.after (ce_glue m I.hok I.env0.frf hq)
theorem pe_df (d : Df X.prog X.w X.K X.mg X.base G k x sp) (hr : Room j X.A) (hk : k ≤ j) (hg : G = true → X.A.guards = some []) (gl : Gl X x) (hx : Passes (L2.CX X.prog X.w) X E) (ha : PA X (e :: es) t)
    (hdb : (x == ("__debug__" : Str)) = false := by decide) (he : starEach (e :: es) X.env = (false, eval e X.env) :: starEach es X.env := by rfl) (hpl : (backTo pos (starEach es X.env)).any (·.1) = false := by rfl) :
    PE X (.Call (.Name x p) (e :: es) [] pos) (tDf sp E t) := by
  obtain ⟨f, fd, ps, F, hm, hkp, hb⟩ := d.ex
  refine ⟨fun pins s σ H Q I h => wpAny_Call_Name_kw (ld_glob I gl hm ?_ hdb)⟩
  exact PySem.W.callWith_K (h₀ := X.base) I.ok.mod.kin hkp (thn (ha.run pos pins s σ H _ I h) fun us s1 ⟨vs, H1, I1, r, q⟩ => ⟨I1.kIn, run_df F (hr.mono hk) hg hb hx I1 r q⟩) he hpl
theorem pe_df0 (d : Df X.prog X.w X.K X.mg X.base G k x sp) (hr : Room j X.A) (hk : k ≤ j) (hg : G = true → X.A.guards = some []) (gl : Gl X x) (hx : Passes (L2.CX X.prog X.w) X E) (hdb : (x == ("__debug__" : Str)) = false := by decide) :
    PE X (.Call (.Name x p) [] [] pos) (tDf sp E tNil) := by
  obtain ⟨f, fd, ps, F, hm, hkp, hb⟩ := d.ex
  refine ⟨fun pins s σ H Q I h => wpAny_Call_Name_kw (ld_glob I gl hm ?_ hdb)⟩
  exact PySem.W.callWith_K0 I.kIn hkp (run_df (us := []) F (hr.mono hk) hg hb hx I .nil h)
end
end Aim

namespace Aim
open PySem PySem.Spec PyProof.Rows L2
open LamX (TabB)
/-! ### the law's own call, at its caller: nothing is shown by repr around it -/
/-- what is tracked then: the tables of code, and the script (where the module does not hold it itself) -/
def atEntry (K : PySem.W.Frag) (ts : List Addr) (a : Addr) (o : Obj) (xs : List V) : Hp := fun b =>
  if b ∈ ts then some (.tbl #[]) else if b = a ∧ K.lookup a = none then some (.frz o (.lst xs)) else none
section
variable {K : PySem.W.Frag} {ts : List Addr} {a b : Addr} {o : Obj} {xs : List V}
theorem entry_tab (h : b ∈ ts) : atEntry K ts a o xs b = some (.tbl #[]) := if_pos h
theorem entry_cases {u : HO} (h : atEntry K ts a o xs b = some u) : (b ∈ ts ∧ u = .tbl #[]) ∨ (b ∉ ts ∧ b = a ∧ K.lookup a = none ∧ u = .frz o (.lst xs)) := by
  unfold atEntry at h
  by_cases h1 : b ∈ ts
  · rw [if_pos h1] at h
    exact .inl ⟨h1, (Option.some.inj h).symm⟩
  · rw [if_neg h1] at h
    by_cases h2 : b = a ∧ K.lookup a = none
    · rw [if_pos h2] at h
      exact .inr ⟨h1, h2.1, h2.2, (Option.some.inj h).symm⟩
    · rw [if_neg h2] at h
      cases h
theorem entry_none (h1 : b ∉ ts) (h2 : b = a → K.lookup a ≠ none) : atEntry K ts a o xs b = none := by
  unfold atEntry
  rw [if_neg h1, if_neg fun z => h2 z.1 z.2]
end
/-- an object like a table, empty -/
abbrev tab0 : Obj := { cls := .none, data := .fields #[] }
section
variable {P : Program} {w : World} {K : PySem.W.Frag} {mg mb : Str → Option Value} {k : Nat} {G : Bool} {fa a : Addr} {cs : List (Addr × Addr)} {fd : FuncData} {x : Str} {sp : Sp} {s₁ : Shared} {vs : List Value} {ns : List Int}
theorem call_law (KX : K.In s₁.heap) (hns : s₁.heap.Ns mainGlobals mg) (hb : s₁.heap.Ns builtinsNs mb) (hbb : ∀ x : Str, x ≠ "__name__" → mb x = bootBuiltins x) (hlim : s₁.heap.NoLimit) (hg : s₁.gens = #[])
    (hT : ∀ p ∈ cs, s₁.heap.get? p.2 = some tab0) (nT : ∀ p ∈ cs, K.lookup p.2 = none) (hC : ∀ p ∈ cs, PySem.W.CodeHd s₁.heap p.1 p.2)
    (hbm : ∃ (bm : Addr) (ob : Obj), mg "__builtins__" = some (.ref bm) ∧ bm ≠ builtinsNs ∧ s₁.heap.get? bm = some ob ∧ ob.cls = .type "module" ∧ ob.dict = some builtinsNs ∧ ob.data = .plain)
    (ha : s₁.heap.get? a = some { cls := .type "list", data := .seq vs.toArray }) (hi : IntsAre vs ns) (hl : ns.length ≤ sizeLine) (hr : Room k callerA)
    (F : ∀ base : Heap, K.In base → base.Ns mainGlobals mg → (∀ p ∈ cs, TabB base mg p.1 p.2) → Rn P w K mg base G k fa fd [x] sp) (hbind : ∀ (s : Shared) (u : Value), BindsTo s fd ⟨[u], []⟩ [(x, u)])
    (hsp : ∀ H : Hp, (∀ p ∈ cs, H p.2 = some (.tbl #[])) → SqL K H a (ns.map V.int) → sp [.ref a] H (fun v _ => v = .bl true) E0) :
    codeAny (model P w) callerA (.call (.ref fa) ⟨[.ref a], []⟩) (fun r s' => r = .ok (.ret (.bool true)) ∧ OldK s₁.heap s'.heap ∧ s'.os = s₁.os ∧ AllBare s'.gens) s₁ := by
  let ts := cs.map (·.2)
  let oa : Obj := { cls := .type "list", data := .seq vs.toArray }
  let H := atEntry K ts a oa (ns.map V.int)
  have rv : Vals (ns.map V.int) vs := vals_ints hi
  have tabs : ∀ b ∈ ts, s₁.heap.get? b = some tab0 ∧ K.lookup b = none := by
    rintro b hm
    obtain ⟨p, hp, rfl⟩ := List.mem_map.mp hm
    exact ⟨hT p hp, nT p hp⟩
  have mem : ∀ p ∈ cs, p.2 ∈ ts := fun p hp => List.mem_map_of_mem hp
  have aOut : a ∉ ts := fun z => by
    have y := (tabs a z).1
    rw [ha] at y
    exact nomatch (Option.some.inj y)
  -- an object that is neither a table nor the script is not tracked
  have out : ∀ {b : Addr} {o : Obj}, s₁.heap.get? b = some o → o.data ≠ .fields #[] → (∀ u n, o.data ≠ .seq u n) → H b = none := fun {b o} e n1 n2 => by
    refine entry_none (fun z => ?_) fun z => ?_
    · have y := (tabs b z).1
      rw [e] at y
      cases y
      exact absurd rfl n1
    · rw [z, ha] at e
      cases e
      exact absurd rfl (n2 _ _)
  have stay : ∀ {b : Addr} {o : Obj}, s₁.heap.get? b = some o → H b = none → (hidT s₁.heap H).get? b = some o := fun e n => hidT_get e n
  have names : ∀ {b : Addr} {m : Str → Option Value}, s₁.heap.Ns b m → (hidT s₁.heap H).Ns b m := by
    rintro b m ⟨o, es, ep, e, d, r⟩
    exact ⟨o, es, ep, stay e (out e (by rw [d]; exact fun z => nomatch z) (by rw [d]; exact fun _ _ z => nomatch z)), d, r⟩
  have KB : K.In (hidT s₁.heap H) := fun b o e => stay (KX b o e) (entry_none (fun z => by rw [(tabs b z).2] at e; cases e) fun z y => by rw [z, y] at e; cases e)
  have md : L2.Mod K mg (hidT s₁.heap H) := by
    obtain ⟨mc, l1, l2⟩ := hlim
    exact ⟨KB, names hns, ⟨mb, names hb, hbb⟩, mc, names l1, l2⟩
  have TB : ∀ p ∈ cs, TabB (hidT s₁.heap H) mg p.1 p.2 := fun p hp => by
    have ht := hT p hp
    have gP : mainGlobals ≠ p.2 := fun z => by
      obtain ⟨o, es, ep, e, d, _⟩ := hns
      rw [z, ht] at e
      cases e
      cases d
    refine ⟨?_, ?_, gP⟩
    · obtain ⟨o, us, file, tf, flags, tg, inF, text, tt, e1, r1, r2, r3, r⟩ := hC p hp
      refine ⟨o, us, file, tf, flags, tg, inF, text, tt, stay e1 (out e1 (fun z => ?_) fun u n z => ?_), r1, r2, r3, r⟩
      · rw [r2] at z
        cases z
        simp at r3
      · rw [r2] at z
        cases z
    · obtain ⟨bm, ob, b1, b2, b3, b4, b5, b6⟩ := hbm
      refine ⟨bm, ob, b1, b2, fun z => ?_, fun z => ?_, stay b3 (out b3 (by rw [b6]; exact fun z => nomatch z) (by rw [b6]; exact fun _ _ z => nomatch z)), b4, b5, b6⟩
      · obtain ⟨o, es, ep, e, d, _⟩ := hns
        rw [← z, b3] at e
        cases e
        rw [b6] at d
        cases d
      · rw [z, ht] at b3
        cases b3
        cases b6
  have scr : ObjOk P w H s₁.heap a (.frz oa (.lst (ns.map V.int))) := ⟨ha, by rw [List.length_map]; exact hl, vs, 0, rv, ha⟩
  have ok : HOk P w H s₁.heap := fun b u e => by
    rcases entry_cases e with ⟨m, rfl⟩ | ⟨_, e1, _, rfl⟩
    · exact (tabs b m).1
    · rw [e1]
      exact scr
  have sq : SqL K H a (ns.map V.int) := by
    cases q : K.lookup a with
    | none => exact .inl (.inr ⟨oa, (if_neg aOut).trans (if_pos ⟨rfl, q⟩)⟩)
    | some o =>
      have e := KX a o q
      rw [ha] at e
      cases e
      exact .inr ⟨_, vs.toArray, _, q, rfl, rfl, rfl, by rw [List.size_toArray, hi.length]; exact hl, by simpa using rv⟩
  have tabH : ∀ p ∈ cs, H p.2 = some (.tbl #[]) := fun p hp => entry_tab (mem p hp)
  have e0 : Env0 P w K mg (hidT s₁.heap H) callerA [] s₁ H := ⟨rfl, md, fun b o e => of_hidT e, Nat.le_of_eq (hidT_size _ _), trivial, (by intro b z; exact absurd (show b ∈ ([] : List Addr) from z) (by simp)), ok, AllBare.of_eq hg⟩
  refine codeAny_mono ((F _ KB (names hns) TB).run (us := [.ref a]) (vs := [V.ref a]) hr (fun _ => rfl) e0 (hbind s₁ (.ref a)) (.cons rfl .nil) (hsp H tabH sq)) fun r s' h => ?_
  match r, h with
  | .error e, h =>
    obtain ⟨_, _, _, _, _, _, _, _, _, _, _, _, z⟩ := h
    exact z.elim
  | .ok (.ret u), ⟨v, H', os, bare, un, hok', r', q⟩ =>
    have q : v = .bl true := q
    rw [q] at r'
    obtain rfl : u = Value.bool true := r'
    -- what is no table stands as it was
    have key : ∀ b o, b ∉ ts → s₁.heap.get? b = some o → s'.heap.get? b = some o := fun b o nb e => by
      cases q : H b with
      | none => exact un.keep b o e q (by intro z; exact absurd (show b ∈ ([] : List Addr) from z) (by simp)) (by simp)
      | some u =>
        rcases entry_cases q with ⟨m, _⟩ | ⟨_, e1, _, rfl⟩
        · exact absurd m nb
        · obtain ⟨g1, _⟩ := ok b _ q
          obtain ⟨g2, _⟩ := hok' b _ (un.frzs b _ _ q)
          rw [e] at g1
          cases g1
          exact g2
    have grown : ∀ p ∈ cs, ∃ more : Array Value, s'.heap.get? p.2 = some { cls := .none, data := .fields more } := fun p hp => by
      obtain ⟨more, z⟩ := un.tbls p.2 #[] (tabH p hp)
      exact ⟨_, hok' p.2 _ z⟩
    refine ⟨rfl, ⟨fun b o e => ?_, fun b o e => ?_⟩, os, bare⟩
    · by_cases m : b ∈ ts
      · obtain ⟨p, hp, rfl⟩ := List.mem_map.mp m
        obtain ⟨more, hm⟩ := grown p hp
        have e' := hT p hp
        rw [e] at e'
        cases e'
        exact .inr (.inl ⟨((hC p hp).tab e).isCodeTable, rfl, #[], more, rfl, by simpa using hm⟩)
      · exact .inl (key b o m e)
    · by_cases m : b ∈ ts
      · obtain ⟨p, hp, rfl⟩ := List.mem_map.mp m
        obtain ⟨more, hm⟩ := grown p hp
        exact ⟨_, hm⟩
      · exact ⟨o, key b o m e⟩
/-- what is to be known of the law's def at the head's heap h -/
def AtLaw (l : PySem.W.OpenLaw) (w : World) (K : PySem.W.Frag) (k n : Nat) (x : Str) (mg : Str → Option Value) (fa : Addr) (h : Heap) : Prop :=
  ∃ (fd : FuncData) (cs : List (Addr × Addr)) (sp : Sp), (∀ p ∈ cs, h.get? p.2 = some tab0 ∧ K.lookup p.2 = none ∧ PySem.W.CodeHd h p.1 p.2) ∧ (∀ (s : Shared) (u : Value), BindsTo s fd ⟨[u], []⟩ [(x, u)]) ∧
    (∀ (H : Hp) (a : Addr) (ns : List Int), ns.length ≤ n → (∀ z ∈ ns, Builtin.Int.intBits z ≤ 1048576) → (∀ p ∈ cs, H p.2 = some (.tbl #[])) → SqL K H a (ns.map V.int) → sp [.ref a] H (fun v _ => v = .bl true) E0) ∧
    ∀ base : Heap, K.In base → base.Ns mainGlobals mg → (∀ p ∈ cs, TabB base mg p.1 p.2) → Rn l.prog w K mg base true k fa fd [x] sp
theorem walk_law {l : PySem.W.OpenLaw} {n : Nat} {q : Program} {loose : List Str} {XP : (Str → Option Value) → Heap → Prop} {YP : World → Heap → Prop} {d : DefRec} {K : Params → PySem.W.Frag}
    (hn : l.most = some n) (hn2 : n ≤ sizeLine) (hdf : d.params.defaults = []) (hr : Room k callerA) (hY : ∀ (w : World) (h : Heap), YP w h → (K w.params).In h)
    (F : ∀ (w : World) (mg : Str → Option Value) (fa : Addr) (h : Heap), YP w h → (K w.params).In h → h.Ns mainGlobals mg → mg d.name = some (.ref fa) →
      (∀ (x : Str) (d : DefRec) (c P : Addr), (recsOf q).find? (fun e => e.name == x) = some d → PySem.W.tabIn (K w.params) x = some (c, P) → PySem.W.CodeHd h c P ∧ h.get? P = some tab0) → AtLaw l w (K w.params) k n x mg fa h) :
    PySem.W.WalkO q loose XP YP l.row.toRowW d [] (fun f vs => PySem.call f vs) := by
  refine Att.attach_callB hn hdf fun w s₀ s₁ mg mb fa o pm cd doc a vs ns G Y ho hd hcd hmg hobj hints hlen hbits hg => ?_
  obtain ⟨fd, cs, sp, hT, hb, hsp, hF⟩ := F w mg fa _ Y (hY w _ Y) G.T.g hmg fun x d c P h1 h2 => PySem.W.tab_of G.T (hY w _ Y) h1 h2
  exact call_law (hY w _ Y) G.T.g G.T.b G.T.builtins G.T.nolimit hg (fun p hp => (hT p hp).1) (fun p hp => (hT p hp).2.1) (fun p hp => (hT p hp).2.2) G.T.bmain hobj hints (Nat.le_trans hlen hn2) hr hF hb fun H hH hS => hsp H a ns hlen hbits hH hS
end
end Aim

namespace Aim
open PySem PySem.Spec PyProof.Rows L2
open LamX (TabB CodeO GivesTo)
/-- v = None / try: a() / except e as n: v = n / return v: the error that a() raises, or None -/
def TTc (K : PySem.W.Frag) (AE : Addr) : (XK → Hp → VK → Prop) → Hp → VK → Prop := fun tl H Q =>
  tl (fun cls d H' => PySem.W.exmOne K cls (.ref AE) = some true ∧ ∀ a, H' a = none → Q (.ref a) (upd H' a (XcV cls d a))) H fun _ H' => Q .non H'
theorem caught_gives {X : Cx} {x v a n e q : Str} {sg : Scope} {g AE : Addr} {cdg : Value} {j : Nat} {p1 p2 p3 p4 p5 p6 p7 p8 p9 p10 p11 p12 p13 p14 : Pos} (hge : sg.names.lookup e = some .globalImplicit) (hme : X.mg e = some (.ref AE)) (hde : (e == ("__debug__" : Str)) = false)
    (hv : sg.names.lookup v = some .local) (hn : sg.names.lookup n = some .local) (hnd : [a, v, n].Nodup) (hdv : (v == ("__debug__" : Str)) = false) (hcv : (v == ("__classdict__" : Str)) = false) (hdn : (n == ("__debug__" : Str)) = false) (hcn : (n == ("__classdict__" : Str)) = false) :
    GivesTo X [a, v, n] x sg g cdg [.Assign [.Name v p1] (.Constant .none j p2) p3, .Try [.Expr (.Call (.Name a p4) [] [] p5) p6] [.ExceptHandler (some (.Name e p7)) (some n) [.Assign [.Name v p8] (.Name n p9) p10] p11] [] [] p12, .Return (some (.Name v p13)) p14] a q (TTc X.K AE) := by
  intro f c' s H Q tl act hc h
  let Y := (cxOf C8.CX0 X.prog X.w X.K X.mg X.base [a, v, n] x sg g cdg X.A X.stack s H C8.E0).nox
  have hgl : Gl Y e := hge
  refine ⟨_, pss_cons (ps_asg pe_non (pg_name (i := 1) hnd rfl (.inl hv) (.inr hv))) (pss_cons (ps_try_keep (X := Y) (i := 2) (c := .ref AE) (Wout := fun _ _ _ _ => False)
      (tb := fun W D σ H => ∃ Ech : XK, (∀ cls d σ' H', Ech cls d H' → W cls d σ' H') ∧ σ[0]? = some (some (.ref f)) ∧ H c' = some (CodeO c' q) ∧ tl Ech H fun _ H' => D.nx σ H')
      rfl rfl rfl hnd rfl hn hgl hme hde LamX.takes0 (fun W pn xe tk _ => ?_) (fun b oe pn => pss_one (ps_asg (pe_var (i := 2) rfl (.inl hn) hdn hcn) (pg_name (i := 1) hnd rfl (.inl hv) (.inr hv))))) (pss_one (ps_ret (pe_var (i := 1) rfl (.inl hv) hdv hcv)))), ?_⟩
  · refine ⟨fun pins s' σ H' D I h' => ?_⟩
    obtain ⟨Ech, hW, h1, h2, h3⟩ := h'
    exact (pss_one (ps_expr (pos := p6) (act W pn xe Ech p4 p5 tk hW))).run pins s' σ H' D I ⟨h1, h2, h3⟩
  · refine ⟨fun cls d H' => PySem.W.exmOne X.K cls (.ref AE) = some true ∧ ∀ a, H' a = none → Q (.ref a) (upd H' a (XcV cls d a)), fun cls d σ' H' hh => ⟨true, hh.1, fun _ b hb hl => ?_, fun z => nomatch z⟩, rfl, hc, ?_⟩
    rotate_left
    · have e : (fun (_ : V) (H' : Hp) => ∃ u, (some (some V.non) : Option (Option V)) = some (some u) ∧ Q u H') = fun _ H' => Q .non H' := by
        funext _ H'
        exact propext ⟨fun ⟨_, e, q⟩ => by cases e; exact q, fun q => ⟨_, rfl, q⟩⟩
      have h : tl _ H _ := h
      rw [← e] at h
      exact h
    match σ', hl with
    | [_, _, _], _ => exact ⟨_, rfl, _, rfl, hh.2 b hb⟩
end Aim

namespace Aim
open PySem PySem.Spec PyProof.Rows L2
open LamX (TabB)
/-! ### what stands behind the top -/
/-- a def of the text behind the top -/
structure Has (K : PySem.W.Frag) (mg : Str → Option Value) (x : Str) (st : Stmt) : Prop where
  ex : ∃ (f : Addr) (fd : FuncData), L2.Fun K x x st f fd ∧ mg x = some (.ref f)
/-- the built-in names that no global hides -/
structure Blt (mg : Str → Option Value) : Prop where
  n_len : mg "len" = none
  n_int : mg "int" = none
  n_abs : mg "abs" = none
  n_isinstance : mg "isinstance" = none
  n_bool : mg "bool" = none
  n_str : mg "str" = none
  n_list : mg "list" = none
  n_tuple : mg "tuple" = none
  n_range : mg "range" = none
  n_max : mg "max" = none
  n_min : mg "min" = none
  n_all : mg "all" = none
  n_any : mg "any" = none
  n_zip : mg "zip" = none
  n_repr : mg "repr" = none
  n_super : mg "super" = none
  n_sorted : mg "sorted" = none
  n_enumerate : mg "enumerate" = none
  n_dict : mg "dict" = none
  n_set : mg "set" = none
  n_bytes : mg "bytes" = none
  n_sum : mg "sum" = none
/-! ### expressions in short -/
section
variable {X : Cx} {x : Str} {v : V} {pos : Pos}
theorem pe_gl (hg : Gl X x) (h : ∃ u, X.mg x = some u ∧ RelV v u) (hd : (x == ("__debug__" : Str)) = false := by decide) : PE X (.Name x pos) (tC v) := by
  obtain ⟨u, h1, h2⟩ := h
  exact pe_glob hg h1 h2 hd
/-- isinstance(x, (tuple, list)) of data -/
def rIsTL (K : PySem.W.Frag) : List V → Hp → VK → Prop := fun xs H Q => ∃ (x : V) (d : PyData) (tp : Addr), xs = [x, .ref tp] ∧ H tp = some (.tup [.ty "tuple", .ty "list"]) ∧ DD K H x d ∧ Q (.bl (isD "tuple" d || isD "list" d)) H
theorem call_isTL : CallR X (.builtin "isinstance") (rIsTL X.K) := by
  intro pins s σ H xs us Q I r ⟨x, d, tp, ex, hT, hd, q⟩
  refine call_isiT pins s σ H xs us Q I r ⟨x, tp, _, _, [.type "tuple", .type "list"], _, ex, hT, .cons (.ty _) (.cons (.ty _) .nil), hd.ty, ?_, q⟩
  refine kitAny_cons (kit_D d (T := "tuple") (by simp)) (fun z => ?_) fun z => by rw [z, Bool.true_or]
  refine kitAny_cons (kit_D d (T := "list") (by simp)) (fun z2 => ?_) fun z2 => by rw [z2, Bool.or_true]
  rw [z, z2]
  rfl
end
/-! ### data, small -/
section
variable {K : PySem.W.Frag} {H : Hp}
/-- data without parts: None, truths, numbers, texts -/
def flatD : PyData → Bool
  | .none | .bool _ | .int _ => true
  | .str x => PyData.canLay0 (.str x)
  | _ => false
theorem DD.tup0 {p : Addr} (h : H p = some (.tup [])) : DD K H (.ref p) (.tuple []) := .tup (.inl (.inl h)) .nil
theorem DD.lst0 {p : Addr} (h : H p = some (.lst [])) : DD K H (.ref p) (.list []) := .lst (.inl (.inl h)) .nil
theorem DD.tupOf {p : Addr} {xs : List V} {ds : List PyData} (h : H p = some (.tup xs)) (d : DDs K H xs ds) : DD K H (.ref p) (.tuple ds) := .tup (.inl (.inl h)) d
theorem DD.lstOf {p : Addr} {xs : List V} {ds : List PyData} (h : H p = some (.lst xs)) (d : DDs K H xs ds) : DD K H (.ref p) (.list ds) := .lst (.inl (.inl h)) d
theorem DD.isTuple {v : V} {d : PyData} (h : DD K H v d) (e : isD "tuple" d = true) : ∃ a xs ds, v = .ref a ∧ d = .tuple ds ∧ SqT K H a xs ∧ DDs K H xs ds := by
  cases h with
  | tup h1 h2 => exact ⟨_, _, _, rfl, rfl, h1, h2⟩
  | _ => simp [isD] at e
theorem DD.isList {v : V} {d : PyData} (h : DD K H v d) (e : isD "list" d = true) : ∃ a xs ds, v = .ref a ∧ d = .list ds ∧ SqL K H a xs ∧ DDs K H xs ds := by
  cases h with
  | lst h1 h2 => exact ⟨_, _, _, rfl, rfl, h1, h2⟩
  | _ => simp [isD] at e
theorem DD.int_iff {v : V} {i : Int} (h : DD K H v (.int i)) : v = .int i := by cases h; rfl
theorem DD.bl_iff {v : V} {b : Bool} (h : DD K H v (.bool b)) : v = .bl b := by cases h; rfl
theorem DD.str_iff {v : V} {x : Str} (h : DD K H v (.str x)) : v = .str x := by cases h; rfl
theorem DD.non_iff {v : V} (h : DD K H v .none) : v = .non := by cases h; rfl
def noneD : PyData → Bool
  | .none => true
  | _ => false
theorem DD.is_none {v : V} {d : PyData} (h : DD K H v d) : decide (v = .non) = noneD d := by
  cases h <;> simp [noneD]
end
end Aim

namespace Aim
open PySem PySem.Spec PyProof.Rows L2
open LamX (TabB Tabs)
/-! ### comprehensions: the new list told with what it holds -/
section
variable {K : PySem.W.Frag} {TT : List (Addr × Str)}
theorem lst_no_tab {H : Hp} {D : Addr} {acc bcc : List V} (h : H D = some (.lst acc)) (t : Tabs TT H) : Tabs TT (upd H D (.lst bcc)) := fun p hp => by
  obtain ⟨ps, h1, h2, h3⟩ := t p hp
  refine ⟨ps, ?_, h2, fun pos cv hc => ?_⟩
  · rw [upd_ne fun z => by rw [z, h] at h1; cases h1]
    exact h1
  · obtain ⟨c, e1, e2⟩ := h3 pos cv hc
    refine ⟨c, e1, ?_⟩
    rw [upd_ne fun z => by rw [z, h] at e2; unfold LamX.CodeO at e2; cases e2]
    exact e2
theorem Ext.put {H H' : Hp} {D : Addr} {acc bcc : List V} (e : Ext TT H H') (n : H D = none) (h : H' D = some (.lst acc)) : Ext TT H (upd H' D (.lst bcc)) := by
  refine ⟨fun b o q k1 k2 => ?_, fun t => lst_no_tab h (e.2 t)⟩
  rw [upd_ne (ne_of_none q n)]
  exact e.1 b o q k1 k2
theorem upd_none {H : Hp} {p D : Addr} {o : HO} (h : upd H p o D = none) : H D = none := by
  unfold upd at h
  split at h
  · cases h
  · exact h
theorem Ext.free {H H' : Hp} {b : Addr} (e : Ext TT H H') (h : H' b = none) : H b = none ∨ ∃ n, H b = some (PotO n b) ∨ ∃ ps, H b = some (.tbl ps) := by
  cases q : H b with
  | none => exact .inl rfl
  | some o =>
    by_cases h1 : ∃ n, o = PotO n b
    · obtain ⟨n, rfl⟩ := h1
      exact .inr ⟨n, .inl rfl⟩
    · by_cases h2 : ∃ ps, o = .tbl ps
      · obtain ⟨ps, rfl⟩ := h2
        exact .inr ⟨0, .inr ⟨ps, rfl⟩⟩
      · have y := e.1 b o q (fun n z => h1 ⟨n, z⟩) fun ps z => h2 ⟨ps, z⟩
        rw [h] at y
        cases y
theorem walk_zipT {a b : Addr} {xs ys : List V} {n : Nat} (h1 : n = xs.length) (h2 : n = ys.length) : Walk (RZ.ItzT K a b) n (fun H => SqT K H a xs ∧ SqT K H b ys) (YPair (fun i => xs[i]?) (fun i => ys[i]?)) := by
  refine ⟨fun i H hi q => ⟨xs, ys, xs[i]'(by omega), ys[i]'(by omega), q.1, q.2, by simp, by simp⟩, fun H q => ⟨xs, ys, q.1, q.2, .inl (by omega)⟩, fun i H v H' _ q y => ?_⟩
  obtain ⟨T, x, z, e1, e2, e3, e4, e5⟩ := y
  exact ⟨T, x, z, e1, e2, e3, e4 _ q.1, e5 _ q.2⟩
end
/-! ### what the law's own look asks of data -/
/-- a whole number, no truth -/
def isI : PyData → Bool
  | .int _ => true
  | _ => false
theorem isI_is (d : PyData) : (isD "int" d && !isD "bool" d) = isI d := by cases d <;> rfl
theorem isI_int {d : PyData} (h : isI d = true) : ∃ i, d = .int i := by
  cases d with
  | int i => exact ⟨i, rfl⟩
  | _ => cases h
def inD (d : PyData) (lo hi : Int) : Bool :=
  match d with
  | .int i => decide (lo ≤ i) && decide (i ≤ hi)
  | _ => false
theorem inD_no {d : PyData} {lo hi : Int} (h : ¬ isI d = true) : inD d lo hi = false := by
  cases d with
  | int i => exact absurd rfl h
  | _ => rfl
theorem inD_int {d : PyData} {lo hi : Int} (h : inD d lo hi = true) : ∃ i, d = .int i ∧ lo ≤ i ∧ i ≤ hi := by
  cases d with
  | int i =>
    have h : (decide (lo ≤ i) && decide (i ≤ hi)) = true := h
    rw [Bool.and_eq_true, decide_eq_true_eq, decide_eq_true_eq] at h
    exact ⟨i, rfl, h⟩
  | _ => cases h
/-- trees of lists and tuples over flat data, n deep at most -/
inductive Tree : Nat → PyData → Prop
  | leaf {n : Nat} {d : PyData} (h : flatD d = true) : Tree n d
  | tup {n : Nat} {ds : List PyData} (h : ∀ d ∈ ds, Tree n d) (l : ds.length ≤ 1000) : Tree (n + 1) (.tuple ds)
  | lst {n : Nat} {ds : List PyData} (h : ∀ d ∈ ds, Tree n d) (l : ds.length ≤ 1000) : Tree (n + 1) (.list ds)
theorem flat_eqv {d : PyData} (h : flatD d = true) : PyData.eqv d d = true := by
  cases d <;> first | rfl | (simp [PyData.eqv]; done) | (cases h; done)
theorem flat_shaped {d : PyData} (h : flatD d = true) : SeqAt.shaped d = true := by
  cases d with
  | str x => exact Bool.and_eq_true_iff.mpr ⟨h, by simp [PyData.depth]⟩
  | none => rfl
  | bool b => rfl
  | int i => rfl
  | _ => cases h
theorem flat_no {d : PyData} (h : flatD d = true) : isD "tuple" d = false ∧ isD "list" d = false := by
  cases d <;> first | exact ⟨rfl, rfl⟩ | (cases h; done)
/-! ### heaps that grow by new objects -/
def Grow (H H' : Hp) : Prop := ∀ b o, H b = some o → H' b = some o
theorem Grow.refl (H : Hp) : Grow H H := fun _ _ e => e
theorem Grow.new {H : Hp} {p : Addr} {o : HO} (h : H p = none) : Grow H (upd H p o) := fun b u e => by
  rw [upd_ne (ne_of_none e h)]
  exact e
theorem Grow.trans {H H1 H2 : Hp} (a : Grow H H1) (b : Grow H1 H2) : Grow H H2 := fun c o e => b c o (a c o e)
theorem Grow.ext {TT : List (Addr × Str)} {H H' : Hp} (a : Grow H H') : Ext TT H H' := .of a
/-! ### data that repr shows in its room -/
def goodB (d : PyData) : Bool := d.showable && (!d.hasDict || noList d) && decide (d.depth ≤ 40) && decide (d.shown.length ≤ 100000)
def Good (d : PyData) : Prop := goodB d = true
theorem Good.all {d : PyData} (h : Good d) : d.showable = true ∧ (d.hasDict = true → noList d = true) ∧ d.depth ≤ 40 ∧ d.shown.length ≤ sizeLine := by
  unfold Good goodB at h
  simp only [Bool.and_eq_true, decide_eq_true_eq, Bool.or_eq_true, Bool.not_eq_true'] at h
  obtain ⟨⟨⟨h1, h2⟩, h3⟩, h4⟩ := h
  refine ⟨h1, fun z => ?_, h3, Nat.le_trans h4 (by decide)⟩
  rcases h2 with h2 | h2
  · rw [h2] at z
    cases z
  · exact h2
theorem good_small {i : Int} (h0 : -3 ≤ i) (h1 : i ≤ 12) : Good (.int i) := by
  have h : ∀ k ∈ List.range 16, goodB (.int ((k : Nat) - 3)) = true := by
    have y : (List.range 16).all (fun k => goodB (.int ((k : Nat) - 3))) = true := by decide +kernel
    exact List.all_eq_true.mp y
  have z := h (i + 3).toNat (List.mem_range.mpr (by omega))
  have e : (((i + 3).toNat : Nat) : Int) - 3 = i := by omega
  rw [e] at z
  exact z
section
variable {K : PySem.W.Frag} {H H' : Hp}
theorem DD.grow {v : V} {d : PyData} (h : DD K H v d) (e : Grow H H') : DD K H' v d := h.mono (e.ext (TT := []))
theorem DDs.grow {v : List V} {d : List PyData} (h : DDs K H v d) (e : Grow H H') : DDs K H' v d := h.mono (e.ext (TT := []))
theorem Grow.sqT {a : Addr} {xs : List V} (e : Grow H H') (h : SqT K H a xs) : SqT K H' a xs := (e.ext (TT := [])).sqT h
theorem Grow.sqL {a : Addr} {xs : List V} (e : Grow H H') (h : SqL K H a xs) : SqL K H' a xs := (e.ext (TT := [])).sqL h
theorem Grow.lst {a : Addr} {xs : List V} (e : Grow H H') (h : H a = some (.lst xs)) : H' a = some (.lst xs) := e _ _ h
theorem Grow.free {b : Addr} (e : Grow H H') (h : H' b = none) : H b = none := by
  cases q : H b with
  | none => rfl
  | some o =>
    rw [e b o q] at h
    cases h
theorem Grow.put {D : Addr} {o : HO} (e : Grow H H') (n : H D = none) : Grow H (upd H' D o) := fun b u q => by
  rw [upd_ne (ne_of_none q n)]
  exact e b u q
end
/-! ### a list beside the empty one -/
section
variable {X : Cx}
def rNeE (K : PySem.W.Frag) : R2 := fun x y H Q => ∃ (a b : Addr) (xs : List V), x = .ref a ∧ y = .ref b ∧ SqL K H a xs ∧ SqL K H b [] ∧ Q (.bl (!xs.isEmpty)) H
theorem op_neE (hu : X.A.units + 64 < cLine) : OpR X (compareOp .NotEq) (rNeE X.K) := by
  intro pins s σ H x y v u Q I rx ry ⟨a, b, xs, ex, ey, ha, hb, q⟩
  subst ex
  subst ey
  obtain rfl : v = Value.ref a := rx
  obtain rfl : u = Value.ref b := ry
  obtain ⟨i1, r1, ⟨o1, n1, g1, c1, _, d1⟩, _⟩ := I.list ha
  obtain ⟨i2, r2, ⟨o2, n2, g2, c2, _, d2⟩, _⟩ := I.list hb
  cases r2
  have l1 : s.heap.IsList a i1.toArray := ⟨o1, g1, c1, n1, d1⟩
  have l2 : s.heap.IsList b #[] := ⟨o2, g2, c2, n2, d2⟩
  cases r1 with
  | nil => exact SeqAt.RcNeAt.lists l1 l2 rfl (by omega) (e := fun _ => true) (fun j h => absurd h (by simp)) _ _ _ _ ⟨.bl false, H, I, rfl, q⟩
  | cons h t => exact SeqAt.RcNeAt.lists_lengths l1 l2 (by simp) (by omega) _ _ _ _ ⟨.bl true, H, I, rfl, q⟩
end
end Aim

namespace Aim
open PySem PySem.Spec PyProof.Rows L2
open LamX (TabB Tabs CodeO GivesTo)
/-! ### a def whose code object is known (it makes lambdas) -/
structure HasC (K : PySem.W.Frag) (mg : Str → Option Value) (x : Str) (st : Stmt) (c : Addr) : Prop where
  ex : ∃ (f : Addr) (oc : Value) (od : Option Addr) (kV doc pm : Value) (an : Option Addr) (ct : Value) (osl : Array (Option Value)),
    K.lookup f = some ⟨oc, od, .func (PySem.W.fnOf x x (defArgs st) (defBody st) (defScope st) .none kV doc pm an (.ref c) ct), osl⟩ ∧ PySem.W.codeIn K (.ref c) x = true ∧ PySem.W.keepIn K (.ref f) = true ∧ mg x = some (.ref f)
section
variable {P : Program} {w : World} {K : PySem.W.Frag} {mg : Str → Option Value} {base : Heap} {G : Bool}
theorem df_okC {x : Str} {st : Stmt} {c : Addr} {N ps : List Str} {k : Nat} {sp : Sp} (F : HasC K mg x st c) (S : FnScope N ps (defScope st)) (len : ∀ vs H Q E, sp vs H Q E → vs.length = ps.length)
    (hb : ∀ (kV doc pm : Value) (an : Option Addr) (cdv ct : Value) (us : List Value), us.length = ps.length → bindArgs (PySem.W.fnOf x x (defArgs st) (defBody st) (defScope st) .none kV doc pm an cdv ct) ⟨us, []⟩ = pure (ps.zip us))
    (body : ∀ (f : Addr) (A : Around) (outer : List Env) (s : Shared) (H : Hp) (vs : List V) (Q : VK) (E : XK), Room k (A.deeper (envOfC x (defScope st) s.heap.objs.size f (.ref c))) → (G = true → A.guards = some []) → sp vs H Q E →
      ∃ t, PSs (cxOf (L2.CX P w) P w K mg base N x (defScope st) f (.ref c) A outer s H E).nox (defBody st) t ∧ t { nx := fun _ H' => Q .non H', rt := Q } (start N vs) H) : Df P w K mg base G (k + 1) x sp := by
  obtain ⟨f, oc, od, kV, doc, pm, an, ct, osl, lk, hcd, kp, hm⟩ := F.ex
  refine ⟨f, _, ps, ⟨len, fun hr hg e0 b r q => LamX.run_ofS lk hcd S hr e0 b r (len _ _ _ _ q) fun hr' => ?_⟩, hm, kp, .all (hb _ _ _ _ _ _)⟩
  obtain ⟨t, h, z⟩ := body _ _ _ _ _ _ _ _ hr' hg q
  exact ⟨t, h.nox, z⟩
end
section
variable {P : Program} {w : World} {K : PySem.W.Frag} {mg : Str → Option Value} {base : Heap} {G : Bool}
/-- a def's promise by its body, its object known -/
theorem rn_ok {x : Str} {st : Stmt} {f : Addr} {fd : FuncData} {N ps : List Str} {k : Nat} {sp : Sp} (F : L2.Fun K x x st f fd) (S : FnScope N ps (defScope st)) (len : ∀ vs H Q E, sp vs H Q E → vs.length = ps.length)
    (body : ∀ (cdv : Value) (A : Around) (outer : List Env) (s : Shared) (H : Hp) (vs : List V) (Q : VK) (E : XK), Room k (A.deeper (envOfC x (defScope st) s.heap.objs.size f cdv)) → (G = true → A.guards = some []) → sp vs H Q E →
      ∃ t, PSs (cxOf (L2.CX P w) P w K mg base N x (defScope st) f cdv A outer s H E).nox (defBody st) t ∧ t { nx := fun _ H' => Q .non H', rt := Q } (start N vs) H) : Rn P w K mg base G (k + 1) f fd ps sp := by
  obtain ⟨oc, od, kV, doc, pm, an, cdv, ct, osl, rfl, lk, hcd⟩ := F.ex
  refine ⟨len, fun hr hg e0 b r q => LamX.run_ofS lk hcd S hr e0 b r (len _ _ _ _ q) fun hr' => ?_⟩
  obtain ⟨t, h, z⟩ := body cdv _ _ _ _ _ _ _ hr' hg q
  exact ⟨t, h.nox, z⟩
theorem has_mk {h : Heap} (X : K.In h) (G : h.Ns mainGlobals mg) {x : Str} {st : Stmt} {f : Addr} {oc kV doc pm cd ct : Value} {od an : Option Addr} {osl : Array (Option Value)} (a : PySem.W.nsIn K mainGlobals x = some (some (.ref f)))
    (l : K.lookup f = some ⟨oc, od, .func (PySem.W.fnOf x x (defArgs st) (defBody st) (defScope st) .none kV doc pm an cd ct), osl⟩) (c : PySem.W.codeIn K cd x = true) (k : PySem.W.keepIn K (.ref f) = true) : Has K mg x st :=
  ⟨f, _, fun_mk (st := st) l c k, PySem.W.mg_of X G a⟩
theorem hasC_mk {h : Heap} (X : K.In h) (G : h.Ns mainGlobals mg) {x : Str} {st : Stmt} {f cd : Addr} {oc kV doc pm ct : Value} {od an : Option Addr} {osl : Array (Option Value)} (a : PySem.W.nsIn K mainGlobals x = some (some (.ref f)))
    (l : K.lookup f = some ⟨oc, od, .func (PySem.W.fnOf x x (defArgs st) (defBody st) (defScope st) .none kV doc pm an (.ref cd) ct), osl⟩) (c : PySem.W.codeIn K (.ref cd) x = true) (k : PySem.W.keepIn K (.ref f) = true) : HasC K mg x st cd :=
  ⟨f, oc, od, kV, doc, pm, an, ct, osl, l, c, k, PySem.W.mg_of X G a⟩
end
/-! ### the law's helper that keeps an error -/
/-- its text -/
def IsCaught (st : Stmt) : Prop := ∃ (j : Nat) (p1 p2 p3 p4 p5 p6 p7 p8 p9 p10 p11 p12 p13 p14 : Pos), defBody st =
  [.Assign [.Name "_law_caught_here" p1] (.Constant .none j p2) p3, .Try [.Expr (.Call (.Name "_law_ask" p4) [] [] p5) p6] [.ExceptHandler (some (.Name "AimError" p7)) (some "error") [.Assign [.Name "_law_caught_here" p8] (.Name "error" p9) p10] p11] [] [] p12, .Return (some (.Name "_law_caught_here" p13)) p14]
structure CauT (K : PySem.W.Frag) (mg : Str → Option Value) (st : Stmt) (AE : Addr) : Prop where
  has : Has K mg "_law_caught" st
  txt : IsCaught st
  sc : FnScope ["_law_ask", "_law_caught_here", "error"] ["_law_ask"] (defScope st)
  s1 : (defScope st).names.lookup ("AimError" : Str) = some .globalImplicit
  s2 : (defScope st).names.lookup ("_law_caught_here" : Str) = some .local
  s3 : (defScope st).names.lookup ("error" : Str) = some .local
  s4 : (defScope st).names.lookup ("_law_ask" : Str) = some .local
  hb : ∀ (kV doc pm : Value) (an : Option Addr) (cdv ct : Value) (us : List Value), us.length = 1 → bindArgs (PySem.W.fnOf "_law_caught" "_law_caught" (defArgs st) (defBody st) (defScope st) .none kV doc pm an cdv ct) ⟨us, []⟩ = pure ((["_law_ask"] : List Str).zip us)
  m : mg "AimError" = some (.ref AE)
section
variable {X : Cx}
theorem pe_caught {T : List (Addr × Str)} {st : Stmt} {AE c Pt : Addr} {k : Nat} {params : Arguments} {body : Expr} {scope : Scope} {t : XK → TE} {p lpos pos : Pos} (U : CauT X.K X.mg st AE) (hg : Gl X "_law_caught")
    (TB : TabB X.base X.mg c Pt) (hcode : X.env.code = .ref c) (hmT : (Pt, X.env.qual ++ "<lambda>") ∈ T) (hu : ∀ p ∈ T, p.1 = Pt → p.2 = X.env.qual ++ "<lambda>") (hr : Room (k + 2) X.A) (L : LamX.LamS X.env.scope scope) (hdef : defaultsOf params X.env = ([], []))
    (hbind : ∀ (q : Str) (cl : List (Str × Addr)) (pm cv ctv : Value), bindArgs (PySem.W.kla_fn "<lambda>" q params body scope cl pm cv ctv) ⟨[], []⟩ = pure [])
    (hbody : ∀ (A : Around) (outer : List Env) (s : Shared) (H : Hp) (E : XK) (f c' : Addr), Room k (A.deeper (LamX.lamEnv X scope s.heap.objs.size f c')) → PE (LamX.lamCx X A outer s H E scope f c') body (t E)) :
    PE X (.Call (.Name "_law_caught" p) [.Lambda params body scope lpos] [] pos) (LamX.tLam T (TTc X.K AE) t) := by
  obtain ⟨g, fd, F, hm⟩ := U.has.ex
  obtain ⟨oc, od, kV, doc, pm, an, cdv, ct, osl, e1, lk, hcd⟩ := id F.ex
  subst e1
  have hbi := F.binds (ps := ["_law_ask"]) U.hb
  obtain ⟨j, p1, p2, p3, p4, p5, p6, p7, p8, p9, p10, p11, p12, p13, p14, hbd⟩ := U.txt
  rw [hbd] at lk hbi
  exact LamX.pe_lamcall hg hm F.kp lk hcd hbi U.sc rfl (.inl U.s4) (caught_gives U.s1 U.m (by decide) U.s2 U.s3 (by decide +kernel) (by decide) (by decide) (by decide) (by decide)) TB hcode hmT hu hr L hdef hbind hbody
end
end Aim

namespace Aim
open PySem PySem.Spec PyProof.Rows L2
/-! ### what the written part says of the error classes -/
section
variable {P : Program} {K : PySem.W.Frag} {mg : Str → Option Value}
theorem aimI_mk {st : Stmt} {f D : Addr} (txt : IsInit st) {oc kV doc pm ct ccl cl : Value} {od an cdd cld : Option Addr} {osl ccs csl : Array (Option Value)} {cc cda : Addr} {vs : Array Value} {file : Str} {tf : Tok} {cdD : ClassData}
    (l : K.lookup f = some ⟨oc, od, .func (PySem.W.fnX "__init__" "AimError.__init__" (defArgs st) (defBody st) (defScope st) [("__class__", cc)] .none kV doc pm an (.ref cda) ct), osl⟩) (c : PySem.W.codeIn K (.ref cda) "AimError.__init__" = true)
    (lc : K.lookup cda = some ⟨ccl, cdd, .fields vs, ccs⟩) (e1 : vs[2]? = some (.str file tf)) (e2 : ((P.main.file : Str) == file) = true) (lcc : K.lookup cc = some ⟨cl, cld, .cell (some (.ref D)), csl⟩) (hD : PySem.W.clsIn K D = some cdD)
    (tI : PySem.W.typeIn K (.ref f) = some (.type "function")) (top : (P.main.scope.names.lookup ("super" : Str)).isSome = false) (third : PySem.W.nsIn K cStatics "thirdparty.any" = some none) : AimI P K st f D :=
  ⟨txt, ⟨oc, od, an, osl, kV, doc, pm, ct, cc, cda, ccl, cl, cdd, cld, ccs, csl, vs, file, tf, cdD, l, c, lc, e1, e2, lcc, hD⟩, tI, top, third⟩
theorem aimC_mk {f D C : Addr} {nm qn : Str} {N : Addr} {bs bm : List Value} {sn sub ab col dd k0 k1 k2 k3 k5} (l : K.lookup C = some (excClassObj nm qn C N bs bm true sn sub ab col dd k0 k1 k2 k3 k5 "ValueError.__new__")) (hbm : PySem.HandSPX.refsVE bm = true)
    (sa : PySem.W.findIn K (.ref C) "__setattr__" = some (some (.builtin "object.__setattr__"))) (exC : PySem.W.subIn K (.ref C) (.type "BaseException") = some true) (tyC : PySem.W.typeIn K (.ref C) = some (.type "type")) (kC : PySem.W.keepIn K (.ref C) = true)
    (ga : PySem.W.findIn K (.ref C) "__getattribute__" = some (some (.builtin "BaseException.__getattribute__"))) (gg : PySem.W.findIn K (.ref C) "__getattr__" = some none) (hdC : PySem.W.hasDictIn K C = true)
    (sb : PySem.W.mroIn K C (.ref D) = some true) (sup : PySem.W.ks_superIn K C D "__init__" = some (some (.builtin "ValueError.__init__"))) (ve : PySem.W.subIn K (.ref C) (.type "ValueError") = some true) (nv : PySem.W.findIn K (.ref C) "value" = some none)
    (ini : PySem.W.findIn K (.ref C) "__init__" = some (some (.ref f))) (own : PySem.W.findIn K (.ref C) "__class__" = some (some (.builtin "object.__class__"))) (get : PySem.W.specialIn K (.builtin "object.__class__") "__get__" = some (some (.builtin "getset_descriptor.__get__")))
    (tak : PySem.W.takesIn K (.builtin "object.__class__") = some true) (obj : PySem.W.mroIn K C (.type "object") = some true) : AimC K f D C :=
  { cls := ⟨_, _, _, _, _, _, _, _, _, _, _, _, _, _, _, l, hbm⟩, sa := sa, exC := exC, tyC := tyC, kC := kC, ga := ga, gg := gg, hdC := hdC, sub := sb, sup := sup, ve := ve, nv := nv, ini := ini, own := own, get := get, tak := tak, obj := obj }
end
end Aim

namespace Aim
open PySem PySem.Spec PyProof.Rows L2
open LamX (TabB Tabs CodeO)
/-! ### data: what values show, by themselves; the heap is told of no more -/
inductive Dat where
  | non | bl (b : Bool) | int (i : Int) | str (x : Str) | byt (b : Array UInt8)
  | ty (n : String) | ref (a : Addr) | pot
  | tup (xs : List Dat) | lst (xs : List Dat)
  | dct (ks : List Key) (xs : List Dat)
  | obj (C : Addr) (ks : List Str) (xs : List Dat)
  | exc (C : Addr) (d : Dat)
  | scr (ns : List Int)
/-- what holds of every text -/
def StrB (x : Str) : Prop := x.length ≤ sizeLine ∧ x.cps.all (fun c => decide (c < 0x110000)) = true
/-- a list that one slot alone holds -/
def OwnO (xs : List V) (a : Addr) : HO := .ext fun h => xs.length ≤ sizeLine ∧ ∃ (its : List Value) (k : Nat), Vals xs its ∧ h.get? a = some { cls := .type "list", data := .seq its.toArray k }
theorem OwnO.ok {P : Program} {w : World} {H : Hp} {h : Heap} {a : Addr} {xs : List V} (l : xs.length ≤ sizeLine) {its : List Value} {k : Nat} (r : Vals xs its) (e : h.get? a = some { cls := .type "list", data := .seq its.toArray k }) : ObjOk P w H h a (OwnO xs a) :=
  ⟨⟨l, its, k, r, e⟩, ⟨_, e⟩, fun _ _ ⟨l, its, k, r, q⟩ f => ⟨l, its, k, r, f _ q⟩⟩
theorem OwnO.at {P : Program} {w : World} {H : Hp} {h : Heap} {a : Addr} {xs : List V} (hok : HOk P w H h) (e : H a = some (OwnO xs a)) : xs.length ≤ sizeLine ∧ ∃ (its : List Value) (k : Nat), Vals xs its ∧ h.get? a = some { cls := .type "list", data := .seq its.toArray k } := by
  obtain ⟨x, _, _⟩ := (show ObjOk P w H h a (OwnO xs a) from hok a _ e)
  exact x
/-- a heap with this object at a -/
theorem heap_with (a : Addr) (its : Array Value) : ∃ h : Heap, h.get? a = some { cls := .type "list", data := .seq its 0 } := ⟨⟨Array.replicate (a + 1) { cls := .type "list", data := .seq its 0 }, {}⟩, by simp [Heap.get?]⟩
theorem own_pot {xs : List V} {a : Addr} {k : Nat} : OwnO xs a ≠ PotO k a := fun z => by
  unfold OwnO PotO at z
  injection z with z
  have key : ∀ d : Int, 0 ≤ d → xs[0]? = some (.int d) := fun d hd => by
    obtain ⟨h, hh⟩ := heap_with a #[.int d 0, .int 0 0, .int 0 0]
    have y := congrFun z h
    have q : xs.length ≤ sizeLine ∧ ∃ (its : List Value) (k : Nat), Vals xs its ∧ h.get? a = some { cls := .type "list", data := .seq its.toArray k } := by
      rw [y]
      exact ⟨d, 0, 0, 0, 0, 0, 0, hh, ⟨hd, by decide, by decide, by omega, by omega⟩⟩
    obtain ⟨-, its, n, r, e⟩ := q
    rw [hh] at e
    injection e with e
    injection e with _ _ e
    injection e with e _
    have e2 : its = [.int d 0, .int 0 0, .int 0 0] := by simpa using (congrArg Array.toList e).symm
    subst e2
    cases r with
    | cons r0 _ =>
      have e3 := r0.abs
      show some _ = some _
      exact e3.symm
  have h1 := key 0 (by omega)
  have h2 := key 1 (by omega)
  rw [h1] at h2
  cases h2
theorem own_vals (xs : List V) : ∃ its : List Value, Vals xs its := by
  induction xs with
  | nil => exact ⟨[], .nil⟩
  | cons x r ih =>
    obtain ⟨its, q⟩ := ih
    cases x with
    | non => exact ⟨.none :: its, .cons rfl q⟩
    | bl b => exact ⟨.bool b :: its, .cons rfl q⟩
    | int i => exact ⟨.int i 0 :: its, .cons ⟨_, rfl⟩ q⟩
    | str x => exact ⟨.str x 0 :: its, .cons ⟨_, rfl⟩ q⟩
    | byt b => exact ⟨.bytes b 0 :: its, .cons ⟨_, rfl⟩ q⟩
    | flt b => exact ⟨.float b 0 :: its, .cons ⟨_, rfl⟩ q⟩
    | ref a => exact ⟨.ref a :: its, .cons rfl q⟩
    | ty n => exact ⟨.type n :: its, .cons rfl q⟩
/-- a thing whose object bears fields is no list -/
theorem own_flds {xs : List V} {a : Addr} {φ : Heap → Prop} (sat : ∃ h, φ h) (h : ∀ h : Heap, φ h → ∃ (o : Obj) (vs : Array Value), h.get? a = some o ∧ o.data = .fields vs) : HO.ext φ ≠ OwnO xs a := fun z => by
  unfold OwnO at z
  injection z with z
  have l : xs.length ≤ sizeLine := by
    obtain ⟨h, hh⟩ := sat
    rw [z] at hh
    exact hh.1
  obtain ⟨its, r⟩ := own_vals xs
  obtain ⟨g, hg⟩ := heap_with a its.toArray
  have q : φ g := by
    rw [z]
    exact ⟨l, its, 0, r, hg⟩
  obtain ⟨o, vs, e1, e2⟩ := h g q
  rw [hg] at e1
  cases e1
  cases e2
theorem own_xcv {xs : List V} {a : Addr} {cls : Value} {d : Option Addr} : XcV cls d a ≠ OwnO xs a := own_flds ⟨⟨Array.replicate (a + 1) { cls := cls, dict := d, data := .fields #[] }, {}⟩, { cls := cls, dict := d, data := .fields #[] }, #[], by simp [Heap.get?], ⟨rfl, rfl⟩, rfl⟩ fun h ⟨oe, vs, e, _, q⟩ => ⟨oe, vs, e, q⟩
theorem own_code {xs : List V} {a : Addr} {q : Str} : CodeO a q ≠ OwnO xs a := own_flds ⟨⟨Array.replicate (a + 1) { cls := .none, data := .fields #[.none, .str q 0] }, {}⟩, { cls := .none, data := .fields #[.none, .str q 0] }, _, 0, by simp [Heap.get?], rfl, rfl⟩ fun h ⟨oc, vs, t, e, q, _⟩ => ⟨oc, vs, e, q⟩
/-- what stands for ever -/
def Perm (b : Addr) (o : HO) : Prop := (∀ k, o ≠ PotO k b) ∧ (∀ xs : List V, o ≠ OwnO xs b) ∧ ∀ ps, o ≠ .tbl ps
theorem perm_ext {b : Addr} {o : HO} (h : ∀ φ, o ≠ .ext φ) (h2 : ∀ ps, o ≠ .tbl ps) : Perm b o := ⟨fun _ => h _, fun _ => h _, h2⟩
theorem perm_xcv {cls : Value} {d : Option Addr} {b : Addr} : Perm b (XcV cls d b) := ⟨fun k z => xcv_np z, fun xs => own_xcv, fun ps z => by unfold XcV at z; cases z⟩
/-- from n draws in H to m draws in H' -/
structure Fra (TT : List (Addr × Str)) (n : Nat) (H : Hp) (m : Nat) (H' : Hp) : Prop where
  le : n ≤ m
  keep : ∀ b o, H b = some o → Perm b o → H' b = some o
  pot : ∀ b k, k ≤ n → H b = some (PotO k b) → ∃ j, j ≤ m ∧ H' b = some (PotO j b)
  tab : Tabs TT H → Tabs TT H'
section
variable {TT : List (Addr × Str)} {n m k : Nat} {H H1 H2 H' : Hp}
theorem Fra.refl : Fra TT n H n H := ⟨Nat.le_refl _, fun _ _ e _ => e, fun _ j h e => ⟨j, h, e⟩, id⟩
theorem Fra.trans (a : Fra TT n H m H1) (b : Fra TT m H1 k H2) : Fra TT n H k H2 := ⟨Nat.le_trans a.le b.le, fun c o e p => b.keep c o (a.keep c o e p) p, fun c j h e => by
  obtain ⟨i, h1, e1⟩ := a.pot c j h e
  exact b.pot c i h1 e1, fun t => b.tab (a.tab t)⟩
theorem Fra.grow (g : Grow H H') (h : n ≤ m := by exact Nat.le_refl _) : Fra TT n H m H' := ⟨h, fun b o e _ => g b o e, fun b k q e => ⟨k, Nat.le_trans q h, g _ _ e⟩, fun t => t.ext g⟩
theorem Fra.pots {p : Addr} {j i : Nat} (h : H p = some (PotO j p)) (l : i ≤ m) (h2 : n ≤ m) : Fra TT n H m (upd H p (PotO i p)) := by
  refine ⟨h2, fun b o e q => ?_, fun b k q e => ?_, fun t => (Ext.pot (m := i) h).2 t⟩
  · rw [upd_ne fun z => ?_]
    · exact e
    · subst z
      rw [h] at e
      exact q.1 j (Option.some.inj e).symm
  · by_cases hb : b = p
    · subst hb
      exact ⟨i, l, upd_same⟩
    · rw [upd_ne hb]
      exact ⟨k, Nat.le_trans q h2, e⟩
/-- an own list is written -/
theorem Fra.own {p : Addr} {xs ys : List V} (h : H p = some (OwnO xs p)) (l : xs.length ≤ sizeLine) : Fra TT n H n (upd H p (OwnO ys p)) := by
  refine ⟨Nat.le_refl _, fun b o e q => ?_, fun b k q e => ?_, fun t x hx => ?_⟩
  · rw [upd_ne fun z => ?_]
    · exact e
    · subst z
      rw [h] at e
      exact q.2.1 xs (Option.some.inj e).symm
  · rw [upd_ne fun z => ?_]
    · exact ⟨k, q, e⟩
    · subst z
      rw [h] at e
      exact own_pot (Option.some.inj e)
  · obtain ⟨ps, h1, h2, h3⟩ := t x hx
    refine ⟨ps, ?_, h2, fun pos cv hc => ?_⟩
    · rw [upd_ne fun z => ?_]
      · exact h1
      · rw [z, h] at h1
        unfold OwnO at h1
        cases h1
    · obtain ⟨c, e1, e2⟩ := h3 pos cv hc
      refine ⟨c, e1, ?_⟩
      rw [upd_ne fun z => ?_]
      · exact e2
      · subst z
        rw [h] at e2
        exact own_code (Option.some.inj e2).symm
end
/-- .. by an expression: own lists are as they were -/
structure Fre (TT : List (Addr × Str)) (n : Nat) (H : Hp) (m : Nat) (H' : Hp) : Prop extends Fra TT n H m H' where
  own : ∀ (b : Addr) (xs : List V), H b = some (OwnO xs b) → H' b = some (OwnO xs b)
section
variable {TT : List (Addr × Str)} {n m k : Nat} {H H1 H2 H' : Hp}
theorem Fre.refl : Fre TT n H n H := ⟨.refl, fun _ _ e => e⟩
theorem Fre.trans (a : Fre TT n H m H1) (b : Fre TT m H1 k H2) : Fre TT n H k H2 := ⟨a.toFra.trans b.toFra, fun c xs e => b.own c xs (a.own c xs e)⟩
theorem Fre.grow (g : Grow H H') (h : n ≤ m := by exact Nat.le_refl _) : Fre TT n H m H' := ⟨.grow g h, fun _ _ e => g _ _ e⟩
theorem Fre.pots {p : Addr} {j i : Nat} (h : H p = some (PotO j p)) (l : i ≤ m) (h2 : n ≤ m) : Fre TT n H m (upd H p (PotO i p)) := ⟨.pots h l h2, fun b xs e => by
  rw [upd_ne fun z => ?_]
  · exact e
  · subst z
    rw [h] at e
    exact own_pot (Option.some.inj e).symm⟩
end
/-! ### what a value shows -/
mutual
inductive Sees (K : PySem.W.Frag) (n : Nat) (H : Hp) : V → Dat → Prop
  | non : Sees K n H .non .non
  | bl (b : Bool) : Sees K n H (.bl b) (.bl b)
  | int (i : Int) : Sees K n H (.int i) (.int i)
  | str (x : Str) : StrB x → Sees K n H (.str x) (.str x)
  | byt (x : Array UInt8) : x.size ≤ sizeLine → Sees K n H (.byt x) (.byt x)
  | ty (x : String) : Sees K n H (.ty x) (.ty x)
  | ref (a : Addr) : Sees K n H (.ref a) (.ref a)
  | pot {a : Addr} {k : Nat} : H a = some (PotO k a) → k ≤ n → Sees K n H (.ref a) .pot
  | tup {a : Addr} {xs : List V} {ds : List Dat} : SqT K H a xs → xs.length ≤ sizeLine → SeesL K n H xs ds → Sees K n H (.ref a) (.tup ds)
  | lst {a : Addr} {xs : List V} {ds : List Dat} : H a = some (.lst xs) → xs.length ≤ sizeLine → SeesL K n H xs ds → Sees K n H (.ref a) (.lst ds)
  | scr {a : Addr} {ns : List Int} : SqL K H a (ns.map V.int) → Sees K n H (.ref a) (.scr ns)
  | dct {a : Addr} {ks : List Key} {xs : List V} {ds : List Dat} : Rd H a (.dK (ks.zip xs)) → ks.length = xs.length → SeesL K n H xs ds → Sees K n H (.ref a) (.dct ks ds)
  | obj {a C dx : Addr} {ks : List Str} {xs : List V} {ds : List Dat} : H a = some (.ins C dx (ks.zip xs)) → ks.length = xs.length → SeesL K n H xs ds → Sees K n H (.ref a) (.obj C ks ds)
  | exc {a C dd : Addr} {v : V} {d : Dat} : H a = some (XcV (.ref C) (some dd) a) → H dd = some (.xd [("value", v)]) → Sees K n H v d → Sees K n H (.ref a) (.exc C d)
inductive SeesL (K : PySem.W.Frag) (n : Nat) (H : Hp) : List V → List Dat → Prop
  | nil : SeesL K n H [] []
  | cons {v : V} {vs : List V} {d : Dat} {ds : List Dat} : Sees K n H v d → SeesL K n H vs ds → SeesL K n H (v :: vs) (d :: ds)
end
section
variable {TT : List (Addr × Str)} {K : PySem.W.Frag} {n m : Nat} {H H' : Hp}
theorem Fra.rd {a : Addr} {u : HO} (e : Fra TT n H m H') (h : Rd H a u) (h1 : ∀ φ, u ≠ .ext φ) (h2 : ∀ ps, u ≠ .tbl ps) : Rd H' a u := by
  rcases h with h | ⟨o, h⟩
  · exact .inl (e.keep _ _ h (perm_ext h1 h2))
  · exact .inr ⟨o, e.keep _ _ h (perm_ext (fun _ z => nomatch z) fun _ z => nomatch z)⟩
theorem Fra.sqL {a : Addr} {xs : List V} (e : Fra TT n H m H') (h : SqL K H a xs) : SqL K H' a xs := h.imp (fun h => e.rd h (fun _ z => nomatch z) fun _ z => nomatch z) id
theorem Fra.sqT {a : Addr} {xs : List V} (e : Fra TT n H m H') (h : SqT K H a xs) : SqT K H' a xs := h.imp (fun h => e.rd h (fun _ z => nomatch z) fun _ z => nomatch z) id
theorem Fra.ins {a C dx : Addr} {fs : List (Str × V)} (e : Fra TT n H m H') (h : H a = some (.ins C dx fs)) : H' a = some (.ins C dx fs) := e.keep _ _ h (perm_ext (fun _ z => nomatch z) fun _ z => nomatch z)
theorem Fra.xd {a : Addr} {fs : List (Str × V)} (e : Fra TT n H m H') (h : H a = some (.xd fs)) : H' a = some (.xd fs) := e.keep _ _ h (perm_ext (fun _ z => nomatch z) fun _ z => nomatch z)
mutual
theorem Sees.mono (e : Fra TT n H m H') : ∀ {v : V} {d : Dat}, Sees K n H v d → Sees K m H' v d
  | _, _, .non => .non
  | _, _, .bl b => .bl b
  | _, _, .int i => .int i
  | _, _, .str x l => .str x l
  | _, _, .byt x l => .byt x l
  | _, _, .ty x => .ty x
  | _, _, .ref a => .ref a
  | _, _, .pot h l => by
    obtain ⟨j, h1, h2⟩ := e.pot _ _ l h
    exact .pot h2 h1
  | _, _, .tup hs l ha => .tup (e.sqT hs) l (SeesL.mono e ha)
  | _, _, .lst hs l ha => .lst (e.keep _ _ hs (perm_ext (fun _ z => nomatch z) fun _ z => nomatch z)) l (SeesL.mono e ha)
  | _, _, .scr hs => .scr (e.sqL hs)
  | _, _, .dct hs hk ha => .dct (e.rd hs (fun _ z => nomatch z) fun _ z => nomatch z) hk (SeesL.mono e ha)
  | _, _, .obj hs hk ha => .obj (e.ins hs) hk (SeesL.mono e ha)
  | _, _, .exc h1 h2 h3 => .exc (e.keep _ _ h1 perm_xcv) (e.xd h2) (Sees.mono e h3)
theorem SeesL.mono (e : Fra TT n H m H') : ∀ {vs : List V} {ds : List Dat}, SeesL K n H vs ds → SeesL K m H' vs ds
  | _, _, .nil => .nil
  | _, _, .cons h r => .cons (Sees.mono e h) (SeesL.mono e r)
end
theorem Sees.grow {v : V} {d : Dat} (h : Sees K n H v d) (g : Grow H H') : Sees K n H' v d := h.mono (TT := []) (Fra.grow g)
theorem SeesL.grow {v : List V} {d : List Dat} (h : SeesL K n H v d) (g : Grow H H') : SeesL K n H' v d := h.mono (TT := []) (Fra.grow g)
theorem SeesL.length : ∀ {vs : List V} {ds : List Dat}, SeesL K n H vs ds → vs.length = ds.length
  | _, _, .nil => rfl
  | _, _, .cons _ r => congrArg (· + 1) (SeesL.length r)
theorem SeesL.get : ∀ {vs : List V} {ds : List Dat} {i : Nat} {v : V}, SeesL K n H vs ds → vs[i]? = some v → ∃ d, ds[i]? = some d ∧ Sees K n H v d
  | _, _, _, _, .nil, e => by simp at e
  | _, _, 0, _, .cons h _, e => by
    simp at e
    subst e
    exact ⟨_, rfl, h⟩
  | _, _, i + 1, _, .cons _ r, e => by
    obtain ⟨d, e1, e2⟩ := SeesL.get (i := i) r (by simpa using e)
    exact ⟨d, by simpa using e1, e2⟩
theorem SeesL.getD : ∀ {vs : List V} {ds : List Dat} {i : Nat} {d : Dat}, SeesL K n H vs ds → ds[i]? = some d → ∃ v, vs[i]? = some v ∧ Sees K n H v d
  | _, _, _, _, .nil, e => by simp at e
  | _, _, 0, _, .cons h _, e => by
    simp at e
    subst e
    exact ⟨_, rfl, h⟩
  | _, _, i + 1, _, .cons _ r, e => by
    obtain ⟨d, e1, e2⟩ := SeesL.getD (i := i) r (by simpa using e)
    exact ⟨d, by simpa using e1, e2⟩
theorem SeesL.append : ∀ {vs us : List V} {ds es : List Dat}, SeesL K n H vs ds → SeesL K n H us es → SeesL K n H (vs ++ us) (ds ++ es)
  | _, _, _, _, .nil, s => s
  | _, _, _, _, .cons h r, s => .cons h (SeesL.append r s)
theorem SeesL.take : ∀ {vs : List V} {ds : List Dat} (i : Nat), SeesL K n H vs ds → SeesL K n H (vs.take i) (ds.take i)
  | _, _, 0, _ => by simp; exact .nil
  | _, _, _ + 1, .nil => by simp; exact .nil
  | _, _, i + 1, .cons h r => .cons h (SeesL.take i r)
theorem SeesL.drop : ∀ {vs : List V} {ds : List Dat} (i : Nat), SeesL K n H vs ds → SeesL K n H (vs.drop i) (ds.drop i)
  | _, _, 0, r => r
  | _, _, _ + 1, .nil => .nil
  | _, _, i + 1, .cons _ r => SeesL.drop i r
theorem SeesL.set {x : V} {y : Dat} (hx : Sees K n H x y) : ∀ {vs : List V} {ds : List Dat} (i : Nat), SeesL K n H vs ds → SeesL K n H (vs.set i x) (ds.set i y)
  | _, _, _, .nil => .nil
  | _, _, 0, .cons _ r => .cons hx r
  | _, _, i + 1, .cons h r => .cons h (SeesL.set hx i r)
theorem SeesL.reverse : ∀ {vs : List V} {ds : List Dat}, SeesL K n H vs ds → SeesL K n H vs.reverse ds.reverse
  | _, _, .nil => .nil
  | _, _, .cons h r => by
    rw [List.reverse_cons, List.reverse_cons]
    exact (SeesL.reverse r).append (.cons h .nil)
/-- shapes -/
theorem Sees.int_iff {v : V} {i : Int} (h : Sees K n H v (.int i)) : v = .int i := by cases h; rfl
theorem Sees.bl_iff {v : V} {b : Bool} (h : Sees K n H v (.bl b)) : v = .bl b := by cases h; rfl
theorem Sees.str_iff {v : V} {x : Str} (h : Sees K n H v (.str x)) : v = .str x ∧ StrB x := by
  cases h with
  | str _ l => exact ⟨rfl, l⟩
theorem Sees.non_iff {v : V} (h : Sees K n H v .non) : v = .non := by cases h; rfl
theorem Sees.byt_iff {v : V} {x : Array UInt8} (h : Sees K n H v (.byt x)) : v = .byt x ∧ x.size ≤ sizeLine := by
  cases h with
  | byt _ l => exact ⟨rfl, l⟩
theorem Sees.ty_iff {v : V} {x : String} (h : Sees K n H v (.ty x)) : v = .ty x := by cases h; rfl
theorem Sees.ref_iff {v : V} {a : Addr} (h : Sees K n H v (.ref a)) : v = .ref a := by cases h; rfl
theorem Sees.tup_iff {v : V} {ds : List Dat} (h : Sees K n H v (.tup ds)) : ∃ a xs, v = .ref a ∧ SqT K H a xs ∧ xs.length ≤ sizeLine ∧ SeesL K n H xs ds := by
  cases h with
  | tup h1 l h2 => exact ⟨_, _, rfl, h1, l, h2⟩
theorem Sees.lst_iff {v : V} {ds : List Dat} (h : Sees K n H v (.lst ds)) : ∃ a xs, v = .ref a ∧ SqL K H a xs ∧ xs.length ≤ sizeLine ∧ SeesL K n H xs ds := by
  cases h with
  | lst h1 l h2 => exact ⟨_, _, rfl, .of h1, l, h2⟩
theorem Sees.lst_at {v : V} {ds : List Dat} (h : Sees K n H v (.lst ds)) : ∃ a xs, v = .ref a ∧ H a = some (.lst xs) ∧ xs.length ≤ sizeLine ∧ SeesL K n H xs ds := by
  cases h with
  | lst h1 l h2 => exact ⟨_, _, rfl, h1, l, h2⟩
theorem Sees.lstOf {p : Addr} {xs : List V} {ds : List Dat} (h : H p = some (.lst xs)) (l : xs.length ≤ sizeLine) (d : SeesL K n H xs ds) : Sees K n H (.ref p) (.lst ds) := .lst h l d
theorem Sees.tupOf {p : Addr} {xs : List V} {ds : List Dat} (h : H p = some (.tup xs)) (l : xs.length ≤ sizeLine) (d : SeesL K n H xs ds) : Sees K n H (.ref p) (.tup ds) := .tup (.inl (.inl h)) l d
/-- a new list, a new tuple -/
theorem Sees.newL {p : Addr} {xs : List V} {ds : List Dat} (h : H p = none) (l : xs.length ≤ sizeLine) (d : SeesL K n H xs ds) : Sees K n (upd H p (.lst xs)) (.ref p) (.lst ds) := .lstOf upd_same l (d.grow (.new h))
theorem Sees.newT {p : Addr} {xs : List V} {ds : List Dat} (h : H p = none) (l : xs.length ≤ sizeLine) (d : SeesL K n H xs ds) : Sees K n (upd H p (.tup xs)) (.ref p) (.tup ds) := .tupOf upd_same l (d.grow (.new h))
end
/-! ### slots -/
inductive Sl where
  | no | val (d : Dat) | own (ds : List Dat)
inductive SlR (K : PySem.W.Frag) (n : Nat) (H : Hp) : Sl → Option V → Prop
  | no {o : Option V} : SlR K n H .no o
  | val {v : V} {d : Dat} : Sees K n H v d → SlR K n H (.val d) (some v)
  | own {a : Addr} {xs : List V} {ds : List Dat} : xs.length ≤ sizeLine → H a = some (OwnO xs a) → SeesL K n H xs ds → SlR K n H (.own ds) (some (.ref a))
def Owns (ρ : List Sl) (σ : L2.St) (i : Nat) (a : Addr) : Prop := (∃ ds, ρ[i]? = some (.own ds)) ∧ σ[i]? = some (some (.ref a))
structure Rel (K : PySem.W.Frag) (ρ : List Sl) (n : Nat) (σ : L2.St) (H : Hp) : Prop where
  len : ρ.length = σ.length
  sl : ∀ (i : Nat) (s : Sl), ρ[i]? = some s → ∃ o, σ[i]? = some o ∧ SlR K n H s o
  ap : ∀ (i j : Nat) (a b : Addr), i ≠ j → Owns ρ σ i a → Owns ρ σ j b → a ≠ b
section
variable {TT : List (Addr × Str)} {K : PySem.W.Frag} {n m : Nat} {H H' : Hp} {ρ : List Sl} {σ : L2.St}
theorem Rel.var {i : Nat} {d : Dat} (r : Rel K ρ n σ H) (h : ρ[i]? = some (.val d)) : ∃ v, σ[i]? = some (some v) ∧ Sees K n H v d := by
  obtain ⟨o, e, q⟩ := r.sl i _ h
  cases q with
  | val h => exact ⟨_, e, h⟩
theorem Rel.owned {i : Nat} {ds : List Dat} (r : Rel K ρ n σ H) (h : ρ[i]? = some (.own ds)) : ∃ a xs, σ[i]? = some (some (.ref a)) ∧ xs.length ≤ sizeLine ∧ H a = some (OwnO xs a) ∧ SeesL K n H xs ds := by
  obtain ⟨o, e, q⟩ := r.sl i _ h
  cases q with
  | own l h1 h2 => exact ⟨_, _, e, l, h1, h2⟩
theorem SlR.mono {s : Sl} {o : Option V} (h : SlR K n H s o) (e : Fra TT n H m H') (k : ∀ a xs, o = some (.ref a) → xs.length ≤ sizeLine → H a = some (OwnO xs a) → (∃ ds, s = .own ds) → H' a = H a) : SlR K m H' s o := by
  cases h with
  | no => exact .no
  | val h => exact .val (h.mono e)
  | own l h1 h2 => exact .own l ((k _ _ rfl l h1 ⟨_, rfl⟩).trans h1) (h2.mono e)
theorem Rel.mono (r : Rel K ρ n σ H) (e : Fra TT n H m H') (k : ∀ i a xs, Owns ρ σ i a → xs.length ≤ sizeLine → H a = some (OwnO xs a) → H' a = H a) : Rel K ρ m σ H' :=
  ⟨r.len, fun i s h => by
    obtain ⟨o, e1, q⟩ := r.sl i s h
    exact ⟨o, e1, q.mono e fun a xs ea l h1 ⟨ds, hs⟩ => k i a xs ⟨⟨ds, by rw [h, hs]⟩, by rw [e1, ea]⟩ l h1⟩, r.ap⟩
theorem Rel.grow (r : Rel K ρ n σ H) (g : Grow H H') : Rel K ρ n σ H' := r.mono (TT := []) (Fra.grow g) fun i a xs _ _ h => by rw [g _ _ h, h]
theorem Rel.fre (r : Rel K ρ n σ H) (e : Fre TT n H m H') : Rel K ρ m σ H' := r.mono e.toFra fun i a xs _ _ h => by rw [e.own _ _ h, h]
/-- a slot is stored -/
theorem Rel.put {i : Nat} {d : Dat} {v : V} (r : Rel K ρ n σ H) (h : Sees K n H v d) : Rel K (ρ.set i (.val d)) n (σ.set i (some v)) H := by
  refine ⟨by simpa using r.len, fun j s e => ?_, fun j k a b ne h1 h2 => ?_⟩
  · rw [List.getElem?_set] at e
    split at e
    · rename_i hij
      subst hij
      split at e
      · rename_i hl
        cases e
        refine ⟨some v, ?_, .val h⟩
        rw [List.getElem?_set_self (by rw [← r.len]; exact hl)]
      · cases e
    · rename_i hij
      obtain ⟨o, e1, q⟩ := r.sl j s e
      exact ⟨o, by rw [List.getElem?_set_ne hij]; exact e1, q⟩
  · have key : ∀ j a, Owns (ρ.set i (.val d)) (σ.set i (some v)) j a → Owns ρ σ j a := fun j a ⟨⟨ds, e1⟩, e2⟩ => by
      rw [List.getElem?_set] at e1
      split at e1
      · split at e1 <;> cases e1
      · rename_i hij
        rw [List.getElem?_set_ne hij] at e2
        exact ⟨⟨ds, e1⟩, e2⟩
    exact r.ap j k a b ne (key _ _ h1) (key _ _ h2)
/-- a slot is forgotten -/
theorem Rel.drop {i : Nat} {o : Option V} (r : Rel K ρ n σ H) : Rel K (ρ.set i .no) n (σ.set i o) H := by
  refine ⟨by simpa using r.len, fun j s e => ?_, fun j k a b ne h1 h2 => ?_⟩
  · rw [List.getElem?_set] at e
    split at e
    · rename_i hij
      subst hij
      split at e
      · rename_i hl
        cases e
        exact ⟨o, by rw [List.getElem?_set_self (by rw [← r.len]; exact hl)], .no⟩
      · cases e
    · rename_i hij
      obtain ⟨o', e1, q⟩ := r.sl j s e
      exact ⟨o', by rw [List.getElem?_set_ne hij]; exact e1, q⟩
  · have key : ∀ j a, Owns (ρ.set i .no) (σ.set i o) j a → Owns ρ σ j a := fun j a ⟨⟨ds, e1⟩, e2⟩ => by
      rw [List.getElem?_set] at e1
      split at e1
      · split at e1 <;> cases e1
      · rename_i hij
        rw [List.getElem?_set_ne hij] at e2
        exact ⟨⟨ds, e1⟩, e2⟩
    exact r.ap j k a b ne (key _ _ h1) (key _ _ h2)
/-- a slot gets a list of its own, from no other slot -/
theorem Rel.putOwn {i : Nat} {a : Addr} {xs : List V} {ds : List Dat} (r : Rel K ρ n σ H) (l : xs.length ≤ sizeLine) (h : H a = some (OwnO xs a)) (d : SeesL K n H xs ds) (no : ∀ j b, j ≠ i → Owns ρ σ j b → b ≠ a) : Rel K (ρ.set i (.own ds)) n (σ.set i (some (.ref a))) H := by
  refine ⟨by simpa using r.len, fun j s e => ?_, fun j k b c ne h1 h2 => ?_⟩
  · rw [List.getElem?_set] at e
    split at e
    · rename_i hij
      subst hij
      split at e
      · rename_i hl
        cases e
        exact ⟨_, by rw [List.getElem?_set_self (by rw [← r.len]; exact hl)], .own l h d⟩
      · cases e
    · rename_i hij
      obtain ⟨o', e1, q⟩ := r.sl j s e
      exact ⟨o', by rw [List.getElem?_set_ne hij]; exact e1, q⟩
  · have key : ∀ j b, Owns (ρ.set i (.own ds)) (σ.set i (some (.ref a))) j b → (j = i ∧ b = a) ∨ (j ≠ i ∧ Owns ρ σ j b) := fun j b ⟨⟨es, e1⟩, e2⟩ => by
      by_cases hij : i = j
      · subst hij
        rw [List.getElem?_set] at e2
        split at e2
        · split at e2
          · cases e2
            exact .inl ⟨rfl, rfl⟩
          · cases e2
        · rename_i z
          exact absurd rfl z
      · rw [List.getElem?_set_ne hij] at e1 e2
        exact .inr ⟨fun z => hij z.symm, ⟨es, e1⟩, e2⟩
    rcases key _ _ h1 with ⟨rfl, rfl⟩ | ⟨hj, o1⟩
    · rcases key _ _ h2 with ⟨rfl, rfl⟩ | ⟨hk, o2⟩
      · exact absurd rfl ne
      · exact (no _ _ hk o2).symm
    · rcases key _ _ h2 with ⟨rfl, rfl⟩ | ⟨hk, o2⟩
      · exact no _ _ hj o1
      · exact r.ap _ _ _ _ ne o1 o2
end
end Aim

namespace Aim
open PySem PySem.Spec PyProof.Rows L2
open LamX (TabB Tabs CodeO)
/-! ### readings by data -/
abbrev RX := Addr → Dat → Nat → Prop
abbrev R0 : RX := fun _ _ _ => False
abbrev DE := List Sl → Nat → (Dat → Nat → Prop) → RX → Prop
abbrev DT := List Sl → Nat → (Bool → Nat → Prop) → RX → Prop
abbrev DA := List Sl → Nat → (List Dat → Nat → Prop) → RX → Prop
/-- what is wanted of errors; the code tables are there -/
structure ExOk (K : PySem.W.Frag) (TT : List (Addr × Str)) (E : XK) (n : Nat) (H : Hp) (R : RX) : Prop where
  tab : Tabs TT H
  ex : ∀ (C : Addr) (d : Dat) (m : Nat) (dd : Addr) (v : V) (H' : Hp), R C d m → Fra TT n H m H' → H' dd = some (.xd [("value", v)]) → Sees K m H' v d → E (.ref C) (some dd) H'
/-- .. by an expression -/
structure ExE (K : PySem.W.Frag) (TT : List (Addr × Str)) (E : XK) (n : Nat) (H : Hp) (R : RX) : Prop where
  tab : Tabs TT H
  ex : ∀ (C : Addr) (d : Dat) (m : Nat) (dd : Addr) (v : V) (H' : Hp), R C d m → Fre TT n H m H' → H' dd = some (.xd [("value", v)]) → Sees K m H' v d → E (.ref C) (some dd) H'
theorem ExOk.toE {K : PySem.W.Frag} {TT : List (Addr × Str)} {E : XK} {n : Nat} {H : Hp} {R : RX} (x : ExOk K TT E n H R) : ExE K TT E n H R := ⟨x.tab, fun C d m dd v H' r f => x.ex C d m dd v H' r f.toFra⟩
section
variable (K : PySem.W.Frag) (TT : List (Addr × Str)) (E : XK)
/-- from a state told by slots of data: a value that shows P's data -/
def LE (f : DE) : TE := fun σ H Q => ∃ ρ n P R, Rel K ρ n σ H ∧ f ρ n P R ∧ (∀ d m v H', P d m → Fre TT n H m H' → Sees K m H' v d → Q v H') ∧ ExE K TT E n H R
def LTs (f : DT) : L2.TT := fun σ H Q => ∃ ρ n P R, Rel K ρ n σ H ∧ f ρ n P R ∧ (∀ b m H', P b m → Fre TT n H m H' → Q b H') ∧ ExE K TT E n H R
def LA (f : DA) : TA := fun σ H Q => ∃ ρ n P R, Rel K ρ n σ H ∧ f ρ n P R ∧ (∀ ds m vs H', P ds m → Fre TT n H m H' → SeesL K m H' vs ds → Q vs H') ∧ ExE K TT E n H R
end
section
variable {K : PySem.W.Frag} {TT : List (Addr × Str)} {E : XK} {X : Cx}
theorem ExOk.mono {n m : Nat} {H H1 : Hp} {R : RX} (x : ExOk K TT E n H R) (f : Fra TT n H m H1) : ExOk K TT E m H1 R := ⟨f.tab x.tab, fun C d k dd v H' r g => x.ex C d k dd v H' r (f.trans g)⟩
theorem ExOk.zero {n : Nat} {H : Hp} (t : Tabs TT H) : ExOk K TT E n H R0 := ⟨t, fun _ _ _ _ _ _ z => z.elim⟩
theorem ExE.mono {n m : Nat} {H H1 : Hp} {R : RX} (x : ExE K TT E n H R) (f : Fre TT n H m H1) : ExE K TT E m H1 R := ⟨f.tab x.tab, fun C d k dd v H' r g => x.ex C d k dd v H' r (f.trans g)⟩
theorem ExE.zero {n : Nat} {H : Hp} (t : Tabs TT H) : ExE K TT E n H R0 := ⟨t, fun _ _ _ _ _ _ z => z.elim⟩
theorem _root_.L2.PE.imp {e : Expr} {t t' : TE} (h : PE X e t) (i : ∀ σ H Q, t' σ H Q → t σ H Q) : PE X e t' := ⟨fun pins s σ H Q I q => h.run pins s σ H Q I (i _ _ _ q)⟩
theorem _root_.L2.PT.imp {e : Expr} {t t' : L2.TT} (h : PT X e t) (i : ∀ σ H Q, t' σ H Q → t σ H Q) : PT X e t' := ⟨fun pins s σ H Q I q => h.run pins s σ H Q I (i _ _ _ q)⟩
theorem _root_.L2.PW.imp {e : Expr} {t t' : L2.TT} (h : PW X e t) (i : ∀ σ H Q, t' σ H Q → t σ H Q) : PW X e t' := ⟨fun w pins s σ H Q I q => h.run w pins s σ H Q I (i _ _ _ q)⟩
theorem _root_.L2.PA.imp {e : List Expr} {t t' : TA} (h : PA X e t) (i : ∀ σ H Q, t' σ H Q → t σ H Q) : PA X e t' := ⟨fun p pins s σ H Q I q => h.run p pins s σ H Q I (i _ _ _ q)⟩
theorem _root_.L2.PS.imp {e : Stmt} {t t' : TS} (h : PS X e t) (i : ∀ D σ H, t' D σ H → t D σ H) : PS X e t' := ⟨fun pins s σ H Q I q => h.run pins s σ H Q I (i _ _ _ q)⟩
theorem _root_.L2.PSs.imp {e : List Stmt} {t t' : TS} (h : PSs X e t) (i : ∀ D σ H, t' D σ H → t D σ H) : PSs X e t' := ⟨fun pins s σ H Q I q => h.run pins s σ H Q I (i _ _ _ q)⟩
theorem _root_.L2.PO.imp {e : Option Expr} {t t' : TO} (h : PO X e t) (i : ∀ σ H Q, t' σ H Q → t σ H Q) : PO X e t' := ⟨fun pins s σ H Q I q => h.run pins s σ H Q I (i _ _ _ q)⟩
/-! ### names, constants -/
/-- what a slot shows -/
def slV : Sl → (Dat → Prop) → Prop
  | .val d, P => P d
  | _, _ => False
def slAt (ρ : List Sl) (i : Nat) : Sl := (ρ[i]?).getD .no
theorem slAt_of {ρ : List Sl} {i : Nat} {s : Sl} (h : slAt ρ i = s) (n : s ≠ .no) : ρ[i]? = some s := by
  unfold slAt at h
  cases e : ρ[i]? with
  | none => rw [e] at h; exact absurd h.symm n
  | some z => rw [e] at h; rw [← h]; rfl
def dVar (i : Nat) : DE := fun ρ n P _ => slV (slAt ρ i) fun d => P d n
def dC (d : Dat) : DE := fun _ n P _ => P d n
theorem de_var {i : Nat} {e : Expr} (h : PE X e (tVar i)) : PE X e (LE K TT E (dVar i)) := h.imp fun σ H Q ⟨ρ, n, P, R, r, f, k, _⟩ => by
  unfold dVar at f
  cases e : slAt ρ i with
  | val d =>
    rw [e] at f
    obtain ⟨v, h1, h2⟩ := r.var (slAt_of e (by simp))
    exact ⟨v, h1, k d n v H f .refl h2⟩
  | _ => rw [e] at f; exact f.elim
theorem de_c {e : Expr} {v : V} {d : Dat} (h : PE X e (tC v)) (s : ∀ n H, Sees K n H v d) : PE X e (LE K TT E (dC d)) := h.imp fun σ H Q ⟨ρ, n, P, R, r, f, k, _⟩ => k d n v H f .refl (s n H)
theorem de_int {i j pos} : PE X (.Constant (.int i) j pos) (LE K TT E (dC (.int i))) := de_c pe_int fun _ _ => .int i
theorem de_bl {b j pos} : PE X (.Constant (.bool b) j pos) (LE K TT E (dC (.bl b))) := de_c pe_bl fun _ _ => .bl b
theorem de_non {j pos} : PE X (.Constant .none j pos) (LE K TT E (dC .non)) := de_c pe_non fun _ _ => .non
theorem de_str {x : Str} {j pos} (l : StrB x := by exact ⟨by decide +kernel, by decide +kernel⟩) : PE X (.Constant (.str x) j pos) (LE K TT E (dC (.str x))) := de_c pe_str fun _ _ => .str x l
/-- a global, by what it shows at every heap -/
theorem de_gl {e : Expr} {v : V} {d : Dat} (h : PE X e (tC v)) (s : ∀ n H, Sees K n H v d) : PE X e (LE K TT E (dC d)) := de_c h s
/-! ### operators by data -/
/-- f of x and y, by the data that they show; what is new grows -/
abbrev G2 := Dat → Dat → (Dat → Prop) → Prop
def OpD (K : PySem.W.Frag) (r : R2) (g : G2) : Prop := ∀ (n : Nat) (x y : V) (d e : Dat) (H : Hp) (Q : VK) (P : Dat → Prop), g d e P → Sees K n H x d → Sees K n H y e → (∀ z v H', P z → Grow H H' → Sees K n H' v z → Q v H') → r x y H Q
def dOp (g : G2) (fa fb : DE) : DE := fun ρ n P R => fa ρ n (fun d m => fb ρ m (fun e k => g d e fun z => P z k) R) R
theorem LE.op {r : R2} {g : G2} (o : OpD K r g) {fa fb : DE} {σ : L2.St} {H : Hp} {Q : VK} (h : LE K TT E (dOp g fa fb) σ H Q) : tOp r (LE K TT E fa) (LE K TT E fb) σ H Q := by
  obtain ⟨ρ, n, P, R, rl, f, k, x⟩ := h
  refine ⟨ρ, n, _, R, rl, f, fun d m v H1 q1 e1 s1 => ⟨ρ, m, _, R, rl.fre e1, q1, fun e j u H2 q2 e2 s2 => ?_, x.mono e1⟩, x⟩
  exact o j v u d e H2 Q _ q2 (s1.mono e2.toFra) s2 fun z w H3 p g3 s3 => k z j w H3 p ((e1.trans e2).trans (.grow g3)) s3
theorem de_op {f : Operator} {r : R2} {g : G2} {a b : Expr} {fa fb : DE} {pos : Pos} (ho : OpR X (binaryOp f) r) (o : OpD K r g) (ha : PE X a (LE K TT E fa)) (hb : PE X b (LE K TT E fb)) : PE X (.BinOp a f b pos) (LE K TT E (dOp g fa fb)) := (pe_op ho ha hb).imp fun _ _ _ h => h.op o
theorem de_cmp {op : CmpOp} {r : R2} {g : G2} {a b : Expr} {fa fb : DE} {pos : Pos} (ho : OpR X (compareOp op) r) (o : OpD K r g) (ha : PE X a (LE K TT E fa)) (hb : PE X b (LE K TT E fb)) (hm : behindInMarks op b = false) : PE X (.Compare a [op] [b] pos) (LE K TT E (dOp g fa fb)) := (pe_cmpR ho ha hb hm).imp fun _ _ _ h => h.op o
/-- a test by a truth -/
def asB : Dat → (Bool → Prop) → Prop
  | .bl b, P => P b
  | _, _ => False
def dTst (f : DE) : DT := fun ρ n P R => f ρ n (fun d m => asB d fun b => P b m) R
theorem asB_of {d : Dat} {P : Bool → Prop} (h : asB d P) : ∃ b, d = .bl b ∧ P b := by
  cases d with
  | bl b => exact ⟨b, rfl, h⟩
  | _ => exact h.elim
theorem LTs.tst {f : DE} {σ : L2.St} {H : Hp} {Q : Bool → Hp → Prop} (h : LTs K TT E (dTst f) σ H Q) : LE K TT E f σ H fun x H' => ∃ k, x = .bl k ∧ Q k H' := by
  obtain ⟨ρ, n, P, R, rl, f, k, x⟩ := h
  refine ⟨ρ, n, _, R, rl, f, fun d m v H1 q1 e1 s1 => ?_, x⟩
  obtain ⟨b, rfl, p⟩ := asB_of q1
  exact ⟨b, s1.bl_iff, k b m H1 p e1⟩
theorem dt_val {e : Expr} {f : DE} (h : PE X e (LE K TT E f)) (he : ∀ whole, isTrue e X.env whole = (do let v ← whole; standAt e.pos; holding [v] (truthy v)) := by intro _; rfl) : PT X e (LTs K TT E (dTst f)) := (pt_val h he).imp fun _ _ _ q => q.tst
theorem dt_cmp {op : CmpOp} {r : R2} {g : G2} {a b : Expr} {fa fb : DE} {pos : Pos} (ho : OpR X (compareOp op) r) (o : OpD K r g) (ha : PE X a (LE K TT E fa)) (hb : PE X b (LE K TT E fb)) (hm : behindInMarks op b = false) : PT X (.Compare a [op] [b] pos) (LTs K TT E (dTst (dOp g fa fb))) :=
  (pt_cmpR ho ha hb hm).imp fun _ _ _ h => by
    have q := h.tst
    exact q.op o
/-- is None -/
def isNon : Dat → Bool
  | .non => true
  | _ => false
theorem Sees.isNon {n : Nat} {H : Hp} {v : V} {d : Dat} (h : Sees K n H v d) : decide (v = .non) = isNon d := by cases h <;> simp [Aim.isNon]
def dUn (g : Dat → (Dat → Prop) → Prop) (f : DE) : DE := fun ρ n P R => f ρ n (fun d m => g d fun z => P z m) R
def gIsN : Dat → (Dat → Prop) → Prop := fun d P => P (.bl (isNon d))
def gNotN : Dat → (Dat → Prop) → Prop := fun d P => P (.bl (!isNon d))
theorem LE.isN {f : DE} {σ : L2.St} {H : Hp} {Q : VK} (h : LE K TT E (dUn gIsN f) σ H Q) : tIsN (LE K TT E f) σ H Q := by
  obtain ⟨ρ, n, P, R, rl, f, k, x⟩ := h
  refine ⟨ρ, n, _, R, rl, f, fun d m v H1 q1 e1 s1 => ?_, x⟩
  show Q (.bl _) H1
  rw [s1.isNon]
  exact k _ m _ H1 q1 e1 (.bl _)
theorem LE.notN {f : DE} {σ : L2.St} {H : Hp} {Q : VK} (h : LE K TT E (dUn gNotN f) σ H Q) : tNotN (LE K TT E f) σ H Q := by
  obtain ⟨ρ, n, P, R, rl, f, k, x⟩ := h
  refine ⟨ρ, n, _, R, rl, f, fun d m v H1 q1 e1 s1 => ?_, x⟩
  show Q (.bl _) H1
  rw [s1.isNon]
  exact k _ m _ H1 q1 e1 (.bl _)
theorem de_isN {a : Expr} {f : DE} {j p pos} (h : PE X a (LE K TT E f)) : PE X (.Compare a [.Is] [.Constant .none j p] pos) (LE K TT E (dUn gIsN f)) := (pe_cmp (pc_isN h)).imp fun _ _ _ h => h.isN
theorem de_notN {a : Expr} {f : DE} {j p pos} (h : PE X a (LE K TT E f)) : PE X (.Compare a [.IsNot] [.Constant .none j p] pos) (LE K TT E (dUn gNotN f)) := (pe_cmp (pc_notN h)).imp fun _ _ _ h => h.notN
theorem dt_isN {a : Expr} {f : DE} {j p pos} (h : PE X a (LE K TT E f)) : PT X (.Compare a [.Is] [.Constant .none j p] pos) (LTs K TT E (dTst (dUn gIsN f))) := (pt_cmp (pc_isN h)).imp fun _ _ _ h => by
  have q := h.tst
  exact q.isN
theorem dt_notN {a : Expr} {f : DE} {j p pos} (h : PE X a (LE K TT E f)) : PT X (.Compare a [.IsNot] [.Constant .none j p] pos) (LTs K TT E (dTst (dUn gNotN f))) := (pt_cmp (pc_notN h)).imp fun _ _ _ h => by
  have q := h.tst
  exact q.notN
/-! ### and, or, not, if -/
def dAndT (a b : DT) : DT := fun ρ n P R => a ρ n (fun c m => if c = true then b ρ m P R else P false m) R
def dOrT (a b : DT) : DT := fun ρ n P R => a ρ n (fun c m => if c = true then P true m else b ρ m P R) R
def dNotT (a : DT) : DT := fun ρ n P R => a ρ n (fun c m => P (!c) m) R
def dIf (t : DT) (a b : DE) : DE := fun ρ n P R => t ρ n (fun c m => if c = true then a ρ m P R else b ρ m P R) R
def dAnd (a b : DE) : DE := fun ρ n P R => a ρ n (fun d m => asB d fun c => if c = true then b ρ m P R else P (.bl false) m) R
def dOr (a b : DE) : DE := fun ρ n P R => a ρ n (fun d m => asB d fun c => if c = true then P (.bl true) m else b ρ m P R) R
def dNot (a : DE) : DE := fun ρ n P R => a ρ n (fun d m => asB d fun c => P (.bl (!c)) m) R
variable {a b : Expr} {rest : List Expr} {fa fb : DE} {ta tb : DT} {pos : Pos}
theorem dw_and1 (ha : PT X a (LTs K TT E ta)) : PW X (.BoolOp .And [a] pos) (LTs K TT E ta) := pw_and1 ha
theorem dw_or1 (ha : PT X a (LTs K TT E ta)) : PW X (.BoolOp .Or [a] pos) (LTs K TT E ta) := pw_or1 ha
theorem dw_and (ha : PT X a (LTs K TT E ta)) (hb : PW X (.BoolOp .And (b :: rest) pos) (LTs K TT E tb)) : PW X (.BoolOp .And (a :: b :: rest) pos) (LTs K TT E (dAndT ta tb)) := (pw_and ha hb).imp fun σ H Q h => by
  obtain ⟨ρ, n, P, R, rl, f, k, x⟩ := h
  refine ⟨ρ, n, _, R, rl, f, fun c m H1 q1 e1 => ?_, x⟩
  cases c with
  | true => exact ⟨ρ, m, _, R, rl.fre e1, q1, fun c2 j H2 q2 e2 => k c2 j H2 q2 (e1.trans e2), x.mono e1⟩
  | false => exact k _ m H1 q1 e1
theorem dw_or (ha : PT X a (LTs K TT E ta)) (hb : PW X (.BoolOp .Or (b :: rest) pos) (LTs K TT E tb)) : PW X (.BoolOp .Or (a :: b :: rest) pos) (LTs K TT E (dOrT ta tb)) := (pw_or ha hb).imp fun σ H Q h => by
  obtain ⟨ρ, n, P, R, rl, f, k, x⟩ := h
  refine ⟨ρ, n, _, R, rl, f, fun c m H1 q1 e1 => ?_, x⟩
  cases c with
  | false => exact ⟨ρ, m, _, R, rl.fre e1, q1, fun c2 j H2 q2 e2 => k c2 j H2 q2 (e1.trans e2), x.mono e1⟩
  | true => exact k _ m H1 q1 e1
theorem dt_not (ha : PT X a (LTs K TT E ta)) : PT X (.UnaryOp .Not a pos) (LTs K TT E (dNotT ta)) := (pt_not ha).imp fun σ H Q h => by
  obtain ⟨ρ, n, P, R, rl, f, k, x⟩ := h
  exact ⟨ρ, n, _, R, rl, f, fun c m H1 q1 e1 => k _ m H1 q1 e1, x⟩
theorem de_if {c : Expr} (hc : PT X c (LTs K TT E ta)) (ha : PE X a (LE K TT E fa)) (hb : PE X b (LE K TT E fb)) : PE X (.IfExp c a b pos) (LE K TT E (dIf ta fa fb)) := (pe_ifExp hc ha hb).imp fun σ H Q h => by
  obtain ⟨ρ, n, P, R, rl, f, k, x⟩ := h
  refine ⟨ρ, n, _, R, rl, f, fun c m H1 q1 e1 => ?_, x⟩
  cases c with
  | true => exact ⟨ρ, m, _, R, rl.fre e1, q1, fun d j v H2 q2 e2 s2 => k d j v H2 q2 (e1.trans e2) s2, x.mono e1⟩
  | false => exact ⟨ρ, m, _, R, rl.fre e1, q1, fun d j v H2 q2 e2 s2 => k d j v H2 q2 (e1.trans e2) s2, x.mono e1⟩
theorem de_and (ha : PE X a (LE K TT E fa)) (hb : PE X (.BoolOp .And (b :: rest) pos) (LE K TT E fb)) : PE X (.BoolOp .And (a :: b :: rest) pos) (LE K TT E (dAnd fa fb)) := (pe_and ha hb).imp fun σ H Q h => by
  obtain ⟨ρ, n, P, R, rl, f, k, x⟩ := h
  refine ⟨ρ, n, _, R, rl, f, fun d m v H1 q1 e1 s1 => ?_, x⟩
  obtain ⟨c, rfl, q⟩ := asB_of q1
  refine ⟨c, s1.bl_iff, ?_⟩
  cases c with
  | true => exact ⟨ρ, m, _, R, rl.fre e1, q, fun d j v H2 q2 e2 s2 => k d j v H2 q2 (e1.trans e2) s2, x.mono e1⟩
  | false => exact k _ m _ H1 q e1 (.bl _)
theorem de_or (ha : PE X a (LE K TT E fa)) (hb : PE X (.BoolOp .Or (b :: rest) pos) (LE K TT E fb)) : PE X (.BoolOp .Or (a :: b :: rest) pos) (LE K TT E (dOr fa fb)) := (pe_or ha hb).imp fun σ H Q h => by
  obtain ⟨ρ, n, P, R, rl, f, k, x⟩ := h
  refine ⟨ρ, n, _, R, rl, f, fun d m v H1 q1 e1 s1 => ?_, x⟩
  obtain ⟨c, rfl, q⟩ := asB_of q1
  refine ⟨c, s1.bl_iff, ?_⟩
  cases c with
  | false => exact ⟨ρ, m, _, R, rl.fre e1, q, fun d j v H2 q2 e2 s2 => k d j v H2 q2 (e1.trans e2) s2, x.mono e1⟩
  | true => exact k _ m _ H1 q e1 (.bl _)
theorem de_one {op} (h : PE X a (LE K TT E fa)) : PE X (.BoolOp op [a] pos) (LE K TT E fa) := pe_one h
theorem de_not (ha : PE X a (LE K TT E fa)) : PE X (.UnaryOp .Not a pos) (LE K TT E (dNot fa)) := (pe_not ha).imp fun σ H Q h => by
  obtain ⟨ρ, n, P, R, rl, f, k, x⟩ := h
  refine ⟨ρ, n, _, R, rl, f, fun d m v H1 q1 e1 s1 => ?_, x⟩
  obtain ⟨c, rfl, q⟩ := asB_of q1
  exact ⟨c, s1.bl_iff, k _ m _ H1 q e1 (.bl _)⟩
/-- a op1 b op2 c -/
def dChain (g g' : G2) (fa fb fc : DE) : DE := fun ρ n P R => fa ρ n (fun d m => fb ρ m (fun e k => g d e fun z => asB z fun c => if c = true then fc ρ k (fun w j => g' e w fun y => P y j) R else P (.bl false) k) R) R
theorem LE.chain {r r' : R2} {g g' : G2} (o : OpD K r g) (o' : OpD K r' g') {fa fb fc : DE} {σ : L2.St} {H : Hp} {Q : VK} (h : LE K TT E (dChain g g' fa fb fc) σ H Q) : tChain r r' (LE K TT E fa) (LE K TT E fb) (LE K TT E fc) σ H Q := by
  obtain ⟨ρ, n, P, R, rl, f, k, x⟩ := h
  refine ⟨ρ, n, _, R, rl, f, fun d m v H1 q1 e1 s1 => ⟨ρ, m, _, R, rl.fre e1, q1, fun e j u H2 q2 e2 s2 => ?_, x.mono e1⟩, x⟩
  refine o j v u d e H2 _ _ q2 (s1.mono e2.toFra) s2 fun z w H3 p g3 s3 => ?_
  obtain ⟨c, rfl, q⟩ := asB_of p
  have e3 : Fre TT n H j H3 := (e1.trans e2).trans (.grow g3)
  refine ⟨c, s3.bl_iff, ?_⟩
  cases c with
  | false => exact k _ j _ H3 q e3 (.bl _)
  | true =>
    refine ⟨ρ, j, _, R, rl.fre e3, q, fun w2 i y H4 q4 e4 s4 => ?_, x.mono e3⟩
    exact o' i u y e w2 H4 Q _ q4 ((s2.grow g3).mono e4.toFra) s4 fun z w H5 p g5 s5 => k z i w H5 p ((e3.trans e4).trans (.grow g5)) s5
theorem de_chain {op op' : CmpOp} {r r' : R2} {g g' : G2} {c : Expr} {fc : DE} (ho : OpR X (compareOp op) r) (ho' : OpR X (compareOp op') r') (o : OpD K r g) (o' : OpD K r' g') (ha : PE X a (LE K TT E fa)) (hb : PE X b (LE K TT E fb)) (hc : PE X c (LE K TT E fc))
    (hm : lastMarks [op, op'] [b, c] = false := by with_unfolding_all rfl) : PE X (.Compare a [op, op'] [b, c] pos) (LE K TT E (dChain g g' fa fb fc)) := (pe_chain ho ho' ha hb hc hm).imp fun _ _ _ h => h.chain o o'
theorem dt_chain {op op' : CmpOp} {r r' : R2} {g g' : G2} {c : Expr} {fc : DE} (ho : OpR X (compareOp op) r) (ho' : OpR X (compareOp op') r') (o : OpD K r g) (o' : OpD K r' g') (ha : PE X a (LE K TT E fa)) (hb : PE X b (LE K TT E fb)) (hc : PE X c (LE K TT E fc))
    (hm : lastMarks [op, op'] [b, c] = false := by with_unfolding_all rfl) : PT X (.Compare a [op, op'] [b, c] pos) (LTs K TT E (dTst (dChain g g' fa fb fc))) := (pt_chain ho ho' ha hb hc hm).imp fun _ _ _ h => by
  have q := h.tst
  exact q.chain o o'
/-! ### argument lists, displays, built-in functions -/
def dNil : DA := fun _ n P _ => P [] n
def dCons (f : DE) (r : DA) : DA := fun ρ n P R => f ρ n (fun d m => r ρ m (fun ds k => P (d :: ds) k) R) R
variable {e : Expr} {es : List Expr} {fr : DA}
theorem da_nil : PA X [] (LA K TT E dNil) := pa_nil.imp fun σ H Q ⟨ρ, n, P, R, rl, f, k, x⟩ => k [] n [] H f .refl .nil
theorem da_cons (ha : PE X e (LE K TT E fa)) (hr : PA X es (LA K TT E fr)) (hs : starEach (e :: es) X.env = (false, eval e X.env) :: starEach es X.env := by rfl) : PA X (e :: es) (LA K TT E (dCons fa fr)) := (pa_cons ha hr hs).imp fun σ H Q ⟨ρ, n, P, R, rl, f, k, x⟩ =>
  ⟨ρ, n, _, R, rl, f, fun d m v H1 q1 e1 s1 => ⟨ρ, m, _, R, rl.fre e1, q1, fun ds j vs H2 q2 e2 s2 => k (d :: ds) j (v :: vs) H2 q2 (e1.trans e2) (.cons (s1.mono e2.toFra) s2), x.mono e1⟩, x⟩
def dTup (t : DA) : DE := fun ρ n P R => t ρ n (fun ds m => ds.length ≤ sizeLine ∧ P (.tup ds) m) R
def dLst (t : DA) : DE := fun ρ n P R => t ρ n (fun ds m => ds.length ≤ sizeLine ∧ P (.lst ds) m) R
theorem de_tup {x1} (h : PA X es (LA K TT E fr)) : PE X (.Tuple es x1 pos) (LE K TT E (dTup fr)) := (pe_tup h).imp fun σ H Q ⟨ρ, n, P, R, rl, f, k, x⟩ =>
  ⟨ρ, n, _, R, rl, f, fun ds m vs H1 q1 e1 s1 => ⟨by rw [s1.length]; exact q1.1, fun p hp => k _ m _ _ q1.2 (e1.trans (.grow (.new hp))) (.newT hp (by rw [s1.length]; exact q1.1) s1)⟩, x⟩
theorem de_lst (h : PA X es (LA K TT E fr)) : PE X (.List es pos) (LE K TT E (dLst fr)) := (pe_lst h).imp fun σ H Q ⟨ρ, n, P, R, rl, f, k, x⟩ =>
  ⟨ρ, n, _, R, rl, f, fun ds m vs H1 q1 e1 s1 => ⟨by rw [s1.length]; exact q1.1, fun p hp => k _ m _ _ q1.2 (e1.trans (.grow (.new hp))) (.newL hp (by rw [s1.length]; exact q1.1) s1)⟩, x⟩
abbrev GA := List Dat → (Dat → Prop) → Prop
def CallD (K : PySem.W.Frag) (r : List V → Hp → VK → Prop) (g : GA) : Prop := ∀ (n : Nat) (vs : List V) (ds : List Dat) (H : Hp) (Q : VK) (P : Dat → Prop), g ds P → SeesL K n H vs ds → (∀ z v H', P z → Grow H H' → Sees K n H' v z → Q v H') → r vs H Q
def dCB (g : GA) (t : DA) : DE := fun ρ n P R => t ρ n (fun ds m => g ds fun z => P z m) R
theorem LE.cb {r : List V → Hp → VK → Prop} {g : GA} (o : CallD K r g) {σ : L2.St} {H : Hp} {Q : VK} (h : LE K TT E (dCB g fr) σ H Q) : tCB r (LA K TT E fr) σ H Q := by
  obtain ⟨ρ, n, P, R, rl, f, k, x⟩ := h
  exact ⟨ρ, n, _, R, rl, f, fun ds m vs H1 q1 e1 s1 => o m vs ds H1 Q _ q1 s1 fun z v H2 p g2 s2 => k z m v H2 p (e1.trans (.grow g2)) s2, x⟩
theorem de_cb {r : List V → Hp → VK → Prop} {g : GA} (o : CallD K r g) (h : PE X e (tCB r (LA K TT E fr))) : PE X e (LE K TT E (dCB g fr)) := h.imp fun _ _ _ q => q.cb o
/-- a built-in type's method -/
abbrev GM := Dat → List Dat → (Dat → Prop) → Prop
def MethD (K : PySem.W.Frag) (T : String) (r : V → List V → Hp → VK → Prop) (g : GM) : Prop := ∀ (n : Nat) (x : V) (d : Dat) (vs : List V) (ds : List Dat) (H : Hp) (Q : VK) (P : Dat → Prop), g d ds P → Sees K n H x d → SeesL K n H vs ds → (∀ z v H', P z → Grow H H' → Sees K n H' v z → Q v H') → r x vs H Q
def TyD (K : PySem.W.Frag) (T : String) (ok : Dat → Bool) : Prop := ∀ (n : Nat) (x : V) (d : Dat) (H : Hp), Sees K n H x d → ok d = true → tyV K T x H
def dBM (ok : Dat → Bool) (g : GM) (fo : DE) (t : DA) : DE := fun ρ n P R => fo ρ n (fun d m => ok d = true ∧ t ρ m (fun ds k => g d ds fun z => P z k) R) R
theorem LE.bm {T : String} {r : V → List V → Hp → VK → Prop} {g : GM} {ok : Dat → Bool} (o : MethD K T r g) (ty : TyD K T ok) {fo : DE} {σ : L2.St} {H : Hp} {Q : VK} (h : LE K TT E (dBM ok g fo fr) σ H Q) : tBM K T r (LE K TT E fo) (LA K TT E fr) σ H Q := by
  obtain ⟨ρ, n, P, R, rl, f, k, x⟩ := h
  refine ⟨ρ, n, _, R, rl, f, fun d m v H1 q1 e1 s1 => ⟨ty m v d H1 s1 q1.1, ρ, m, _, R, rl.fre e1, q1.2, fun ds j vs H2 q2 e2 s2 => ?_, x.mono e1⟩, x⟩
  exact o j v d vs ds H2 Q _ q2 (s1.mono e2.toFra) s2 fun z w H3 p g3 s3 => k z j w H3 p ((e1.trans e2).trans (.grow g3)) s3
theorem LE.bm0 {T : String} {r : V → List V → Hp → VK → Prop} {g : GM} {ok : Dat → Bool} (o : MethD K T r g) (ty : TyD K T ok) {fo : DE} {σ : L2.St} {H : Hp} {Q : VK} (h : LE K TT E (dBM ok g fo dNil) σ H Q) : tBM0 K T r (LE K TT E fo) σ H Q := by
  obtain ⟨ρ, n, P, R, rl, f, k, x⟩ := h
  refine ⟨ρ, n, _, R, rl, f, fun d m v H1 q1 e1 s1 => ⟨ty m v d H1 s1 q1.1, ?_⟩, x⟩
  exact o m v d [] [] H1 Q _ q1.2 s1 .nil fun z w H3 p g3 s3 => k z m w H3 p (e1.trans (.grow g3)) s3
/-! ### subscripts, slices -/
theorem de_ix {r : R2} {g : G2} (hi : IxR X r) (o : OpD K r g) (ha : PE X a (LE K TT E fa)) (hb : PE X b (LE K TT E fb)) (hs : PlainIx b) : PE X (.Subscript a b pos) (LE K TT E (dOp g fa fb)) := (pe_ix hi ha hb hs).imp fun _ _ _ h => h.op o
abbrev DO := List Sl → Nat → (Option Int → Nat → Prop) → RX → Prop
def LO (K : PySem.W.Frag) (TT : List (Addr × Str)) (E : XK) (f : DO) : TO := fun σ H Q => ∃ ρ n P R, Rel K ρ n σ H ∧ f ρ n P R ∧ (∀ i m H', P i m → Fre TT n H m H' → Q i H') ∧ ExE K TT E n H R
def asI : Dat → (Int → Prop) → Prop
  | .int i, P => P i
  | _, _ => False
theorem asI_of {d : Dat} {P : Int → Prop} (h : asI d P) : ∃ b, d = .int b ∧ P b := by
  cases d with
  | int b => exact ⟨b, rfl, h⟩
  | _ => exact h.elim
def dNone : DO := fun _ n P _ => P none n
def dSome (f : DE) : DO := fun ρ n P R => f ρ n (fun d m => asI d fun i => P (some i) m) R
theorem do_none : PO X none (LO K TT E dNone) := po_none.imp fun σ H Q ⟨ρ, n, P, R, rl, f, k, x⟩ => k none n H f .refl
theorem do_some (h : PE X a (LE K TT E fa)) : PO X (some a) (LO K TT E (dSome fa)) := (po_some h).imp fun σ H Q ⟨ρ, n, P, R, rl, f, k, x⟩ => ⟨ρ, n, _, R, rl, f, fun d m v H1 q1 e1 s1 => by
  obtain ⟨i, rfl, q⟩ := asI_of q1
  exact ⟨i, s1.int_iff, k (some i) m H1 q e1⟩, x⟩
abbrev GS := Dat → Option Int → Option Int → (Dat → Prop) → Prop
def SlD (K : PySem.W.Frag) (r : V → Option Int → Option Int → Hp → VK → Prop) (g : GS) : Prop := ∀ (n : Nat) (x : V) (d : Dat) (lo hi : Option Int) (H : Hp) (Q : VK) (P : Dat → Prop), g d lo hi P → Sees K n H x d → (∀ z v H', P z → Grow H H' → Sees K n H' v z → Q v H') → r x lo hi H Q
def dSl (g : GS) (f : DE) (l u : DO) : DE := fun ρ n P R => f ρ n (fun d m => l ρ m (fun lo k => u ρ k (fun hi j => g d lo hi fun z => P z j) R) R) R
theorem LE.sl {r : V → Option Int → Option Int → Hp → VK → Prop} {g : GS} (o : SlD K r g) {l u : DO} {σ : L2.St} {H : Hp} {Q : VK} (h : LE K TT E (dSl g fa l u) σ H Q) : tSl r (LE K TT E fa) (LO K TT E l) (LO K TT E u) σ H Q := by
  obtain ⟨ρ, n, P, R, rl, f, k, x⟩ := h
  refine ⟨ρ, n, _, R, rl, f, fun d m v H1 q1 e1 s1 => ⟨ρ, m, _, R, rl.fre e1, q1, fun lo j H2 q2 e2 => ⟨ρ, j, _, R, (rl.fre e1).fre e2, q2, fun hi i H3 q3 e3 => ?_, x.mono (e1.trans e2)⟩, x.mono e1⟩, x⟩
  exact o i v d lo hi H3 Q _ q3 (s1.mono (e2.trans e3).toFra) fun z w H4 p g4 s4 => k z i w H4 p (((e1.trans e2).trans e3).trans (.grow g4)) s4
end
end Aim

namespace Aim
open PySem PySem.Spec PyProof.Rows L2
open LamX (TabB Tabs CodeO)
/-! ### statements by data -/
structure DN where
  nx : List Sl → Nat → Prop
  rt : Dat → Nat → Prop
  bk : List Sl → Nat → Prop := fun _ _ => False
  ct : List Sl → Nat → Prop := fun _ _ => False
  ex : RX
abbrev DS := DN → List Sl → Nat → Prop
structure Ok (K : PySem.W.Frag) (TT : List (Addr × Str)) (E : XK) (n : Nat) (H : Hp) (P : DN) (D : Ends) : Prop where
  nx : ∀ ρ m σ H', P.nx ρ m → Fra TT n H m H' → Rel K ρ m σ H' → D.nx σ H'
  rt : ∀ d m v H', P.rt d m → Fra TT n H m H' → Sees K m H' v d → D.rt v H'
  bk : ∀ ρ m σ H', P.bk ρ m → Fra TT n H m H' → Rel K ρ m σ H' → D.bk σ H'
  ct : ∀ ρ m σ H', P.ct ρ m → Fra TT n H m H' → Rel K ρ m σ H' → D.ct σ H'
  ex : ExOk K TT E n H P.ex
def LS (K : PySem.W.Frag) (TT : List (Addr × Str)) (E : XK) (g : DS) : TS := fun D σ H => ∃ ρ n P, Rel K ρ n σ H ∧ g P ρ n ∧ Ok K TT E n H P D
section
variable {K : PySem.W.Frag} {TT : List (Addr × Str)} {E : XK} {X : Cx}
theorem Ok.mono {n m : Nat} {H H1 : Hp} {P : DN} {D : Ends} (k : Ok K TT E n H P D) (f : Fra TT n H m H1) : Ok K TT E m H1 P D :=
  ⟨fun ρ j σ H' p g r => k.nx ρ j σ H' p (f.trans g) r, fun d j v H' p g r => k.rt d j v H' p (f.trans g) r, fun ρ j σ H' p g r => k.bk ρ j σ H' p (f.trans g) r, fun ρ j σ H' p g r => k.ct ρ j σ H' p (f.trans g) r, k.ex.mono f⟩
variable {a b : Expr} {st : Stmt} {sts : List Stmt} {fa fb : DE} {ta tb : DT} {g g1 g2 : DS} {pos : Pos}
def dSeq (g1 g2 : DS) : DS := fun P ρ n => g1 { P with nx := g2 P } ρ n
def dEnd : DS := fun P ρ n => P.nx ρ n
theorem dss_nil : PSs X [] (LS K TT E dEnd) := pss_nil.imp fun D σ H ⟨ρ, n, P, r, f, k⟩ => k.nx ρ n σ H f .refl r
theorem dss_cons (h1 : PS X st (LS K TT E g1)) (h2 : PSs X sts (LS K TT E g2)) : PSs X (st :: sts) (LS K TT E (dSeq g1 g2)) := (pss_cons h1 h2).imp fun D σ H ⟨ρ, n, P, r, f, k⟩ =>
  ⟨ρ, n, { P with nx := g2 P }, r, f, ⟨fun ρ' m σ' H' q e r' => ⟨ρ', m, P, r', q, k.mono e⟩, k.rt, k.bk, k.ct, k.ex⟩⟩
theorem dss_one (h1 : PS X st (LS K TT E g1)) : PSs X [st] (LS K TT E g1) := pss_one h1
def dRet (f : DE) : DS := fun P ρ n => f ρ n P.rt P.ex
def dRetN : DS := fun P _ n => P.rt .non n
def dIfS (t : DT) (g1 g2 : DS) : DS := fun P ρ n => t ρ n (fun c m => if c = true then g1 P ρ m else g2 P ρ m) P.ex
def dDrop (f : DE) : DS := fun P ρ n => f ρ n (fun _ m => P.nx ρ m) P.ex
theorem ds_ret (h : PE X a (LE K TT E fa)) : PS X (.Return (some a) pos) (LS K TT E (dRet fa)) := (ps_ret h).imp fun D σ H ⟨ρ, n, P, r, f, k⟩ => ⟨ρ, n, P.rt, P.ex, r, f, fun d m v H' q e s => k.rt d m v H' q e.toFra s, k.ex.toE⟩
theorem ds_retN : PS X (.Return none pos) (LS K TT E dRetN) := ps_retN.imp fun D σ H ⟨ρ, n, P, r, f, k⟩ => k.rt .non n .non H f .refl .non
theorem ds_if {c : Expr} {x y : List Stmt} (hc : PT X c (LTs K TT E ta)) (h1 : PSs X x (LS K TT E g1)) (h2 : PSs X y (LS K TT E g2)) : PS X (.If c x y pos) (LS K TT E (dIfS ta g1 g2)) := (ps_if hc h1 h2).imp fun D σ H ⟨ρ, n, P, r, f, k⟩ =>
  ⟨ρ, n, _, P.ex, r, f, fun c m H' q e => by
    cases c with
    | true => exact ⟨ρ, m, P, r.fre e, q, k.mono e.toFra⟩
    | false => exact ⟨ρ, m, P, r.fre e, q, k.mono e.toFra⟩, k.ex.toE⟩
theorem ds_expr (h : PE X a (LE K TT E fa)) (hs : swapsWith a none pos.line X.env = pure false := by rfl) : PS X (.Expr a pos) (LS K TT E (dDrop fa)) := (ps_expr h hs).imp fun D σ H ⟨ρ, n, P, r, f, k⟩ => ⟨ρ, n, _, P.ex, r, f, fun d m v H' q e _ => k.nx ρ m σ H' q e.toFra (r.fre e), k.ex.toE⟩
theorem ds_pass : PS X (.Pass pos) (LS K TT E dEnd) := ps_pass.imp fun D σ H ⟨ρ, n, P, r, f, k⟩ => k.nx ρ n σ H f .refl r
theorem ds_doc {x j p2} : PS X (.Expr (.Constant (.str x) j p2) pos) (LS K TT E dEnd) := ps_doc.imp fun D σ H ⟨ρ, n, P, r, f, k⟩ => k.nx ρ n σ H f .refl r
def dBrk : DS := fun P ρ n => P.bk ρ n
def dCnt : DS := fun P ρ n => P.ct ρ n
theorem ds_break : PS X (.Break pos) (LS K TT E dBrk) := ps_break.imp fun D σ H ⟨ρ, n, P, r, f, k⟩ => k.bk ρ n σ H f .refl r
theorem ds_continue : PS X (.Continue pos) (LS K TT E dCnt) := ps_continue.imp fun D σ H ⟨ρ, n, P, r, f, k⟩ => k.ct ρ n σ H f .refl r
/-! ### targets -/
theorem wipe_get {j : Nat} (σ : L2.St) : ∀ l : List Nat, (wipe σ l)[j]? = if j ∈ l then σ[j]?.map (fun _ => none) else σ[j]?
  | [] => by simp [wipe]
  | i :: l => by
    show ((wipe σ l).set i none)[j]? = _
    rw [List.getElem?_set, wipe_get σ l, wipe_length]
    by_cases hij : i = j
    · subst hij
      by_cases hl : i < σ.length
      · simp [hl, List.getElem?_eq_getElem hl]
      · simp [hl, List.getElem?_eq_none (by omega : σ.length ≤ i)]
    · simp only [hij, if_false, List.mem_cons]
      have : j ≠ i := fun z => hij z.symm
      simp [this]
theorem wipe_set {σ : L2.St} {i : Nat} {o : Option V} {l : List Nat} (h : i ∈ l) : wipe (σ.set i o) l = wipe σ l := by
  apply List.ext_getElem?
  intro j
  rw [wipe_get, wipe_get, List.getElem?_set]
  by_cases hj : j ∈ l
  · simp only [hj, if_true]
    by_cases hij : i = j
    · subst hij
      by_cases hl : i < σ.length
      · simp [hl, List.getElem?_eq_getElem hl]
      · simp [hl, List.getElem?_eq_none (by omega : σ.length ≤ i)]
    · simp [hij]
  · simp only [hj, if_false]
    have : i ≠ j := fun z => hj (z ▸ h)
    simp [this]
abbrev DG := Dat → List Sl → (List Sl → Prop) → Prop
abbrev DGs := List Dat → List Sl → (List Sl → Prop) → Prop
def LG (K : PySem.W.Frag) (vs : List Nat) (g : DG) : TG := fun v σ H Q => ∃ ρ n d P, Rel K ρ n σ H ∧ Sees K n H v d ∧ g d ρ P ∧ ∀ ρ' σ', P ρ' → Rel K ρ' n σ' H → (∀ l, (∀ i ∈ vs, i ∈ l) → wipe σ' l = wipe σ l) → Q σ' H
def LGs (K : PySem.W.Frag) (vs : List Nat) (g : DGs) : TGs := fun us σ H Q => ∃ ρ n ds P, Rel K ρ n σ H ∧ SeesL K n H us ds ∧ g ds ρ P ∧ ∀ ρ' σ', P ρ' → Rel K ρ' n σ' H → (∀ l, (∀ i ∈ vs, i ∈ l) → wipe σ' l = wipe σ l) → Q σ' H
theorem _root_.L2.PG.imp {e : Expr} {t t' : TG} (h : PG X e t) (i : ∀ v σ H Q, t' v σ H Q → t v σ H Q) : PG X e t' := ⟨fun pins s σ H v u Q I r q => h.run pins s σ H v u Q I r (i _ _ _ _ q)⟩
theorem _root_.L2.PGs.imp {e : List Expr} {t t' : TGs} (h : PGs X e t) (i : ∀ v σ H Q, t' v σ H Q → t v σ H Q) : PGs X e t' := ⟨fun pins s σ H v u Q I r q => h.run pins s σ H v u Q I r (i _ _ _ _ q)⟩
def dgName (i : Nat) : DG := fun d ρ P => P (ρ.set i (.val d))
def dgNil : DGs := fun ds ρ P => match ds with
  | [] => P ρ
  | _ => False
def dgCons (t : DG) (u : DGs) : DGs := fun ds ρ P => match ds with
  | d :: r => t d ρ fun ρ' => u r ρ' P
  | [] => False
def dgTup (t : DGs) : DG := fun d ρ P => match d with
  | .tup ds => t ds ρ P
  | _ => False
theorem dg_name {i : Nat} {e : Expr} (h : PG X e (gName i)) : PG X e (LG K [i] (dgName i)) := h.imp fun v σ H Q ⟨ρ, n, d, P, r, s, f, k⟩ => k _ _ f (r.put s) fun l hl => wipe_set (hl i (by simp))
theorem dgs_nil : PGs X [] (LGs K [] dgNil) := pgs_nil.imp fun vs σ H Q ⟨ρ, n, ds, P, r, s, f, k⟩ => by
  cases s with
  | nil => exact ⟨rfl, k _ _ f r fun l _ => rfl⟩
  | cons _ _ => exact False.elim f
theorem dgs_cons {e : Expr} {es : List Expr} {vs ws : List Nat} {t : DG} {u : DGs} (h1 : PG X e (LG K vs t)) (h2 : PGs X es (LGs K ws u)) (hs : (assignEach (e :: es) X.env).map (·.2) = assign e X.env :: (assignEach es X.env).map (·.2) := by rfl) : PGs X (e :: es) (LGs K (vs ++ ws) (dgCons t u)) := (pgs_cons h1 h2 hs).imp fun us σ H Q ⟨ρ, n, ds, P, r, s, f, k⟩ => by
  cases s with
  | nil => exact False.elim f
  | cons s1 s2 => exact ⟨_, _, rfl, ρ, n, _, _, r, s1, f, fun ρ1 σ1 f1 r1 w1 => ⟨ρ1, n, _, P, r1, s2, f1, fun ρ2 σ2 f2 r2 w2 => k ρ2 σ2 f2 r2 fun l hl => (w2 l fun i hi => hl i (List.mem_append_right _ hi)).trans (w1 l fun i hi => hl i (List.mem_append_left _ hi))⟩⟩
theorem dg_tup {es : List Expr} {k : Nat} {vs : List Nat} {t : DGs} {n : Nat} (hc : X.calm = true) (h : PGs X es (LGs X.K vs t)) (hl : ∀ ds ρ P, t ds ρ P → ds.length = n) (hn : (assignEach es X.env).length = n := by rfl) (hst : (assignEach es X.env).findIdx? (·.1) = none := by rfl) : PG X (.Tuple es k pos) (LG X.K vs (dgTup t)) := (pg_tup hc h hn hst).imp fun v σ H Q ⟨ρ, m, d, P, r, s, f, k⟩ => by
  cases s with
  | tup h1 l h2 => exact ⟨_, _, rfl, h1, by rw [h2.length]; exact hl _ _ _ f, ρ, m, _, P, r, h2, f, k⟩
  | _ => exact False.elim f
theorem dgl_nil {ds : List Dat} {ρ : List Sl} {P : List Sl → Prop} (h : dgNil ds ρ P) : ds.length = 0 := by
  cases ds with
  | nil => rfl
  | cons _ _ => exact False.elim h
def dAsg (f : DE) (g : DG) : DS := fun P ρ n => f ρ n (fun d m => g d ρ fun ρ' => P.nx ρ' m) P.ex
theorem LS.asg {vs : List Nat} {g : DG} {D : Ends} {σ : L2.St} {H : Hp} (h : LS K TT E (dAsg fa g) D σ H) : tAsg (LE K TT E fa) (LG K vs g) D σ H := by
  obtain ⟨ρ, n, P, r, f, k⟩ := h
  exact ⟨ρ, n, _, P.ex, r, f, fun d m v H1 q e s => ⟨ρ, m, d, _, r.fre e, s, q, fun ρ' σ' q' r' _ => k.nx ρ' m σ' H1 q' e.toFra r'⟩, k.ex.toE⟩
theorem ds_asg {tg : Expr} {vs : List Nat} {g : DG} (he : PE X a (LE K TT E fa)) (hg : PG X tg (LG K vs g)) (hs : swapsWithSole [tg] a pos.line X.env = pure false := by rfl) (hw : swappedStores [tg] a X.env = pure none := by rfl)
    (h1 : (assignEach [tg] X.env).map (·.2) = [assign tg X.env] := by rfl) : PS X (.Assign [tg] a pos) (LS K TT E (dAsg fa g)) := (ps_asg he hg hs hw h1).imp fun _ _ _ h => h.asg
theorem ds_set {i : Nat} {x : Str} {p2 : Pos} (hN : X.N.Nodup) (hi : X.N[i]? = some x) (hx : Loc X.env.scope x) (he : PE X a (LE K TT E fa)) (hf : X.fn x = true ∨ X.env.scope.names.lookup x = some .local := by first | exact .inl rfl | exact .inr rfl | assumption) (hs : swapsWithSole [.Name x p2] a pos.line X.env = pure false := by rfl) (hw : swappedStores [.Name x p2] a X.env = pure none := by rfl)
    (h1 : (assignEach [.Name x p2] X.env).map (·.2) = [assign (.Name x p2) X.env] := by rfl) : PS X (.Assign [.Name x p2] a pos) (LS K TT E (dAsg fa (dgName i))) := ds_asg he (dg_name (pg_name hN hi hx hf)) hs hw h1
/-- two names at once -/
def dPar (i j : Nat) (f : DA) : DS := fun P ρ n => f ρ n (fun ds m => match ds with
  | [d, e] => P.nx ((ρ.set i (.val d)).set j (.val e)) m
  | _ => False) P.ex
theorem ds_par {i j : Nat} {fr : DA} (h : PS X st (tPar i j (LA K TT E fr))) : PS X st (LS K TT E (dPar i j fr)) := h.imp fun D σ H ⟨ρ, n, P, r, f, k⟩ => ⟨ρ, n, _, P.ex, r, f, fun ds m vs H1 q e s => by
  cases s with
  | nil => exact False.elim q
  | cons s1 s =>
    cases s with
    | nil => exact False.elim q
    | cons s2 s =>
      cases s with
      | nil => exact ⟨_, _, rfl, k.nx _ m _ H1 q e.toFra (((r.fre e).put s1).put s2)⟩
      | cons _ _ => exact False.elim q, k.ex.toE⟩
/-! ### what is walked -/
/-- from H on, through all that the loop's turns do, the walked thing gives these items -/
structure Items (K : PySem.W.Frag) (TT : List (Addr × Str)) (J : It) (m : Nat) (H : Hp) (ds : List Dat) : Prop where
  len : ds.length ≤ sizeLine
  goes : ∀ i n' H', i < ds.length → Fra TT m H n' H' → J.go i H'
  stops : ∀ n' H', Fra TT m H n' H' → J.stop ds.length H'
  yields : ∀ (i n' : Nat) (H' : Hp) (x : V) (H2 : Hp) (d : Dat), ds[i]? = some d → Fra TT m H n' H' → J.yld i H' x H2 → Grow H' H2 ∧ ∀ G, Fra TT m H n' G → (∀ b o, H2 b = some o → H' b = none → G b = some o) → Sees K n' G x d
abbrev DI := List Sl → Nat → (List Dat → Nat → Prop) → RX → Prop
def LI (K : PySem.W.Frag) (TT : List (Addr × Str)) (E : XK) (f : DI) : TI := fun σ H R => ∃ ρ n P Rx, Rel K ρ n σ H ∧ f ρ n P Rx ∧ (∀ ds m J H1, P ds m → Fre TT n H m H1 → Items K TT J m H1 ds → R J H1) ∧ ExE K TT E n H Rx
theorem _root_.L2.PI.imp {tg e : Expr} {t t' : TI} (h : PI X tg e t) (i : ∀ σ H Q, t' σ H Q → t σ H Q) : PI X tg e t' := ⟨fun pins s σ H Q I q => h.run pins s σ H Q I (i _ _ _ q)⟩
/-- the items of a list or a tuple -/
def lstOf : Dat → (List Dat → Prop) → Prop
  | .lst ds, P => P ds
  | _, _ => False
def tupOf : Dat → (List Dat → Prop) → Prop
  | .tup ds, P => P ds
  | _, _ => False
theorem lstOf_of {d : Dat} {P : List Dat → Prop} (h : lstOf d P) : ∃ b, d = .lst b ∧ P b := by
  cases d with
  | lst b => exact ⟨b, rfl, h⟩
  | _ => exact h.elim
theorem tupOf_of {d : Dat} {P : List Dat → Prop} (h : tupOf d P) : ∃ b, d = .tup b ∧ P b := by
  cases d with
  | tup b => exact ⟨b, rfl, h⟩
  | _ => exact h.elim
def diList (f : DE) : DI := fun ρ n P R => f ρ n (fun d m => lstOf d fun ds => P ds m) R
def diTup (f : DE) : DI := fun ρ n P R => f ρ n (fun d m => tupOf d fun ds => P ds m) R
theorem di_list {tg : Expr} (h : PE X a (LE X.K TT E fa)) : PI X tg a (LI X.K TT E (diList fa)) := (pi_list h).imp fun σ H R ⟨ρ, n, P, Rx, r, f, k, x⟩ => ⟨ρ, n, _, Rx, r, f, fun d m v H1 q e s => by
  obtain ⟨ds, rfl, q⟩ := lstOf_of q
  obtain ⟨l, xs, rfl, h1, h2, h3⟩ := s.lst_iff
  refine ⟨l, rfl, ⟨_, h1⟩, k ds m _ H1 q e ⟨by rw [← h3.length]; exact h2, fun i n' H' hi g => ?_, fun n' H' g => ⟨_, g.sqL h1, by rw [h3.length]; exact Nat.le_refl _⟩, fun i n' H' y H2 d hd g z => ?_⟩⟩
  · rw [← h3.length] at hi
    exact ⟨_, xs[i], g.sqL h1, by simp [hi]⟩
  · obtain ⟨e1, e2⟩ := z
    have e2 := e2 xs (g.sqL h1)
    rw [e1]
    obtain ⟨d', e3, s3⟩ := h3.get e2
    rw [hd] at e3
    cases e3
    exact ⟨.refl _, fun G gG _ => s3.mono gG⟩, x⟩
theorem di_tup {tg : Expr} (h : PE X a (LE X.K TT E fa)) : PI X tg a (LI X.K TT E (diTup fa)) := (pi_tup h).imp fun σ H R ⟨ρ, n, P, Rx, r, f, k, x⟩ => ⟨ρ, n, _, Rx, r, f, fun d m v H1 q e s => by
  obtain ⟨ds, rfl, q⟩ := tupOf_of q
  obtain ⟨l, xs, rfl, h1, h2, h3⟩ := s.tup_iff
  refine ⟨l, rfl, ⟨_, h1⟩, k ds m _ H1 q e ⟨by rw [← h3.length]; exact h2, fun i n' H' hi g => ?_, fun n' H' g => ⟨_, g.sqT h1, by rw [h3.length]; exact Nat.le_refl _⟩, fun i n' H' y H2 d hd g z => ?_⟩⟩
  · rw [← h3.length] at hi
    exact ⟨_, xs[i], g.sqT h1, by simp [hi]⟩
  · obtain ⟨e1, e2⟩ := z
    have e2 := e2 xs (g.sqT h1)
    rw [e1]
    obtain ⟨d', e3, s3⟩ := h3.get e2
    rw [hd] at e3
    cases e3
    exact ⟨.refl _, fun G gG _ => s3.mono gG⟩, x⟩
/-- numbers in a row -/
def numL (lo : Int) : Nat → List Dat
  | 0 => []
  | k + 1 => .int lo :: numL (lo + 1) k
theorem numL_len : ∀ (lo : Int) (k : Nat), (numL lo k).length = k
  | _, 0 => rfl
  | lo, k + 1 => congrArg (· + 1) (numL_len (lo + 1) k)
theorem numL_get : ∀ (lo : Int) (k i : Nat), i < k → (numL lo k)[i]? = some (.int (lo + i))
  | lo, 0, i, h => absurd h (Nat.not_lt_zero _)
  | lo, k + 1, 0, h => by simp [numL]
  | lo, k + 1, i + 1, h => by
    show (numL (lo + 1) k)[i]? = _
    rw [numL_get (lo + 1) k i (by omega)]
    congr 2
    push_cast
    omega
theorem items_range {lo : Int} {k m : Nat} {H : Hp} (l : k ≤ sizeLine) : Items K TT (Itr lo k) m H (numL lo k) := by
  refine ⟨by rw [numL_len]; exact l, fun i n' H' hi g => by rw [numL_len] at hi; exact hi, fun n' H' g => by rw [numL_len]; exact Nat.le_refl _, fun i n' H' x H2 d hd g y => ?_⟩
  obtain ⟨e1, e2⟩ := y
  have hi : i < k := by
    obtain ⟨h, _⟩ := List.getElem?_eq_some_iff.mp hd
    rw [numL_len] at h
    exact h
  rw [numL_get _ _ _ hi] at hd
  cases hd
  rw [e1, e2]
  exact ⟨.refl _, fun _ _ _ => .int _⟩
def rg1 : List Dat → (List Dat → Prop) → Prop
  | [.int j], P => (-(2 ^ 62) ≤ j ∧ j ≤ 1000000) ∧ P (numL 0 j.toNat)
  | _, _ => False
def rg2 : List Dat → (List Dat → Prop) → Prop
  | [.int i, .int j], P => (-1000000 ≤ i ∧ i ≤ 1000000 ∧ -1000000 ≤ j ∧ j ≤ 1000000) ∧ P (numL i (j - i).toNat)
  | _, _ => False
def diRng1 (f : DA) : DI := fun ρ n P R => f ρ n (fun ds m => rg1 ds fun xs => P xs m) R
def diRng2 (f : DA) : DI := fun ρ n P R => f ρ n (fun ds m => rg2 ds fun xs => P xs m) R
theorem rng1_of {ds : List Dat} {n : Nat} {H : Hp} {vs : List V} {P : List Dat → Prop} (s : SeesL K n H vs ds) (h : rg1 ds P) : ∃ j : Int, vs = [.int j] ∧ -(2 ^ 62) ≤ j ∧ j < 2 ^ 62 ∧ P (numL 0 j.toNat) ∧ j.toNat ≤ sizeLine := by
  unfold rg1 at h
  split at h
  · rename_i j
    cases s with
    | cons s1 s2 =>
      cases s2
      have l : j.toNat ≤ 1000000 := by have := h.1.2; omega
      exact ⟨j, by rw [s1.int_iff], h.1.1, by omega, h.2, Nat.le_trans l (by decide)⟩
  · exact h.elim
theorem rng2_of {ds : List Dat} {n : Nat} {H : Hp} {vs : List V} {P : List Dat → Prop} (s : SeesL K n H vs ds) (h : rg2 ds P) : ∃ i j : Int, vs = [.int i, .int j] ∧ (-1000000 ≤ i ∧ i ≤ 1000000 ∧ -1000000 ≤ j ∧ j ≤ 1000000) ∧ P (numL i (j - i).toNat) ∧ (j - i).toNat ≤ sizeLine := by
  unfold rg2 at h
  split at h
  · rename_i i j
    cases s with
    | cons s1 s2 =>
      cases s2 with
      | cons s2 s3 =>
        cases s3
        have l : (j - i).toNat ≤ 2000000 := by have := h.1; omega
        exact ⟨i, j, by rw [s1.int_iff, s2.int_iff], h.1, h.2, Nat.le_trans l (by decide)⟩
  · exact h.elim
theorem di_rng1 {tg e : Expr} {fr : DA} (h : PI X tg e (iRng1 (LA K TT E fr))) : PI X tg e (LI K TT E (diRng1 fr)) := h.imp fun σ H R ⟨ρ, n, P, Rx, r, f, k, x⟩ => ⟨ρ, n, _, Rx, r, f, fun ds m vs H1 q e s => by
  obtain ⟨j, rfl, j0, j1, q, l⟩ := rng1_of s q
  exact ⟨j, rfl, j0, j1, k _ m _ H1 q e (items_range l)⟩, x⟩
theorem di_rng2 {tg e : Expr} {fr : DA} (h : PI X tg e (iRng2 (LA K TT E fr))) : PI X tg e (LI K TT E (diRng2 fr)) := h.imp fun σ H R ⟨ρ, n, P, Rx, r, f, k, x⟩ => ⟨ρ, n, _, Rx, r, f, fun ds m vs H1 q e s => by
  obtain ⟨i, j, rfl, h1, q, l⟩ := rng2_of s q
  exact ⟨i, j, rfl, by omega, k _ m _ H1 q e (items_range l)⟩, x⟩
/-- pairs -/
def pairs (xs ys : List Dat) : List Dat := List.zipWith (fun x y => .tup [x, y]) xs ys
theorem pair_sees {n : Nat} {H' H2 G : Hp} {v x y : V} {T : Addr} {d e : Dat} (n0 : H' T = none) (e1 : v = .ref T) (e2 : H2 = upd H' T (.tup [x, y])) (q : ∀ b o, H2 b = some o → H' b = none → G b = some o) (s1 : Sees K n G x d) (s2 : Sees K n G y e) : Sees K n G v (.tup [d, e]) := by
  subst e1
  subst e2
  exact .tupOf (q T _ upd_same n0) (by show 2 ≤ sizeLine; decide) (.cons s1 (.cons s2 .nil))
theorem pairs_len {xs ys : List Dat} : (pairs xs ys).length = min xs.length ys.length := by simp [pairs]
theorem pairs_get {xs ys : List Dat} {i : Nat} {d : Dat} (h : (pairs xs ys)[i]? = some d) : ∃ x y, xs[i]? = some x ∧ ys[i]? = some y ∧ d = .tup [x, y] := by
  unfold pairs at h
  rw [List.getElem?_zipWith] at h
  split at h
  · rename_i x y h1 h2
    cases h
    exact ⟨x, y, h1, h2, rfl⟩
  · cases h
def zp : List Dat → (List Dat → Prop) → Prop
  | [.lst xs, .lst ys], P => P (pairs xs ys)
  | [.tup xs, .tup ys], P => xs.length = ys.length ∧ P (pairs xs ys)
  | _, _ => False
def en : List Dat → (List Dat → Prop) → Prop
  | [.lst xs], P => P (pairs (numL 0 xs.length) xs)
  | _, _ => False
def diZip (f : DA) : DI := fun ρ n P R => f ρ n (fun ds m => zp ds fun xs => P xs m) R
def diEnum (f : DA) : DI := fun ρ n P R => f ρ n (fun ds m => en ds fun xs => P xs m) R
theorem items_zipL {p q : Addr} {xs ys : List V} {ds es : List Dat} {m : Nat} {H : Hp} (h1 : SqL K H p xs) (h2 : SqL K H q ys) (s1 : SeesL K m H xs ds) (s2 : SeesL K m H ys es) (l : xs.length ≤ sizeLine) : Items K TT (Itz K p q) m H (pairs ds es) := by
  have w := walk_zip (K := K) (a := p) (b := q) (xs := xs) (ys := ys) (n := (pairs ds es).length) (by rw [pairs_len, s1.length, s2.length])
  refine ⟨?_, fun i n' H' hi g => w.goes i H' hi ⟨g.sqL h1, g.sqL h2⟩, fun n' H' g => w.stops H' ⟨g.sqL h1, g.sqL h2⟩, fun i n' H' x H2 d hd g y => ?_⟩
  · rw [pairs_len, ← s1.length]
    exact Nat.le_trans (Nat.min_le_left _ _) l
  · obtain ⟨hi, _⟩ := List.getElem?_eq_some_iff.mp hd
    obtain ⟨T, a, b, e1, e2, e3, e4, e5⟩ := w.yields i H' x H2 hi ⟨g.sqL h1, g.sqL h2⟩ y
    obtain ⟨d1, d2, f1, f2, rfl⟩ := pairs_get hd
    obtain ⟨d1', g1, t1⟩ := s1.get e4
    obtain ⟨d2', g2, t2⟩ := s2.get e5
    rw [f1] at g1
    rw [f2] at g2
    cases g1
    cases g2
    exact ⟨by rw [e3]; exact .new e2, fun G gG q => pair_sees e2 e1 e3 q (t1.mono gG) (t2.mono gG)⟩
theorem items_zipT {p q : Addr} {xs ys : List V} {ds es : List Dat} {m : Nat} {H : Hp} (h1 : SqT K H p xs) (h2 : SqT K H q ys) (s1 : SeesL K m H xs ds) (s2 : SeesL K m H ys es) (l : xs.length ≤ sizeLine) (e : ds.length = es.length) : Items K TT (RZ.ItzT K p q) m H (pairs ds es) := by
  have w := walk_zipT (K := K) (a := p) (b := q) (xs := xs) (ys := ys) (n := (pairs ds es).length) (by rw [pairs_len, s1.length]; omega) (by rw [pairs_len, s2.length]; omega)
  refine ⟨?_, fun i n' H' hi g => w.goes i H' hi ⟨g.sqT h1, g.sqT h2⟩, fun n' H' g => w.stops H' ⟨g.sqT h1, g.sqT h2⟩, fun i n' H' x H2 d hd g y => ?_⟩
  · rw [pairs_len, ← s1.length]
    exact Nat.le_trans (Nat.min_le_left _ _) l
  · obtain ⟨hi, _⟩ := List.getElem?_eq_some_iff.mp hd
    obtain ⟨T, a, b, e1, e2, e3, e4, e5⟩ := w.yields i H' x H2 hi ⟨g.sqT h1, g.sqT h2⟩ y
    obtain ⟨d1, d2, f1, f2, rfl⟩ := pairs_get hd
    obtain ⟨d1', g1, t1⟩ := s1.get e4
    obtain ⟨d2', g2, t2⟩ := s2.get e5
    rw [f1] at g1
    rw [f2] at g2
    cases g1
    cases g2
    exact ⟨by rw [e3]; exact .new e2, fun G gG q => pair_sees e2 e1 e3 q (t1.mono gG) (t2.mono gG)⟩
theorem items_enum {p : Addr} {xs : List V} {ds : List Dat} {m : Nat} {H : Hp} (h1 : SqL K H p xs) (s1 : SeesL K m H xs ds) (l : xs.length ≤ sizeLine) : Items K TT (Ite K p) m H (pairs (numL 0 ds.length) ds) := by
  have w := walk_enum (K := K) (a := p) (xs := xs)
  have hn : (pairs (numL 0 ds.length) ds).length = xs.length := by rw [pairs_len, numL_len, s1.length]; omega
  refine ⟨by rw [hn]; exact l, fun i n' H' hi g => w.goes i H' (by omega) (g.sqL h1), fun n' H' g => by rw [hn]; exact w.stops H' (g.sqL h1), fun i n' H' x H2 d hd g y => ?_⟩
  obtain ⟨hi, _⟩ := List.getElem?_eq_some_iff.mp hd
  obtain ⟨T, a, b, e1, e2, e3, e4, e5⟩ := w.yields i H' x H2 (by omega) (g.sqL h1) y
  obtain ⟨d1, d2, f1, f2, rfl⟩ := pairs_get hd
  obtain ⟨d2', g2, t2⟩ := s1.get e5
  rw [f2] at g2
  cases g2
  rw [numL_get _ _ _ (by rw [s1.length] at hn; omega)] at f1
  cases f1
  cases e4
  refine ⟨by rw [e3]; exact .new e2, fun G gG q => pair_sees e2 e1 e3 q ?_ (t2.mono gG)⟩
  rw [Int.zero_add]
  exact .int _
theorem di_zip {tg e : Expr} {fr : DA} (h : PI X tg e (RZ.iZipA X.K (LA X.K TT E fr))) : PI X tg e (LI X.K TT E (diZip fr)) := h.imp fun σ H R ⟨ρ, n, P, Rx, r, f, k, x⟩ => ⟨ρ, n, _, Rx, r, f, fun ds m vs H1 q e s => by
  unfold zp at q
  split at q
  · cases s with
    | cons s1 s =>
      cases s with
      | cons s2 s =>
        cases s
        obtain ⟨p1, xs, rfl, a1, a2, a3⟩ := s1.lst_iff
        obtain ⟨p2, ys, rfl, b1, b2, b3⟩ := s2.lst_iff
        exact ⟨p1, p2, xs, ys, rfl, .inl ⟨a1, b1, k _ m _ H1 q e (items_zipL a1 b1 a3 b3 a2)⟩⟩
  · cases s with
    | cons s1 s =>
      cases s with
      | cons s2 s =>
        cases s
        obtain ⟨p1, xs, rfl, a1, a2, a3⟩ := s1.tup_iff
        obtain ⟨p2, ys, rfl, b1, b2, b3⟩ := s2.tup_iff
        exact ⟨p1, p2, xs, ys, rfl, .inr ⟨a1, b1, k _ m _ H1 q.2 e (items_zipT a1 b1 a3 b3 a2 q.1)⟩⟩
  · exact q.elim, x⟩
theorem di_enum {tg e : Expr} {fr : DA} (h : PI X tg e (iEnum X.K (LA X.K TT E fr))) : PI X tg e (LI X.K TT E (diEnum fr)) := h.imp fun σ H R ⟨ρ, n, P, Rx, r, f, k, x⟩ => ⟨ρ, n, _, Rx, r, f, fun ds m vs H1 q e s => by
  unfold en at q
  split at q
  · cases s with
    | cons s1 s =>
      cases s
      obtain ⟨p1, xs, rfl, a1, a2, a3⟩ := s1.lst_iff
      exact ⟨p1, xs, rfl, a1, k _ m _ H1 q e (items_enum a1 a3 a2)⟩
  · exact q.elim, x⟩
/-! ### for -/
def loop (tg : DG) (body : DS) (P : DN) : List Dat → List Sl → Nat → Prop
  | [], ρ, n => P.nx ρ n
  | d :: ds, ρ, n => tg d ρ fun ρ' => body { P with nx := loop tg body P ds, ct := loop tg body P ds, bk := P.nx } ρ' n
def dFor (fi : DI) (tg : DG) (body : DS) : DS := fun P ρ n => fi ρ n (fun ds m => loop tg body P ds ρ m) P.ex
theorem LS.for {fi : DI} {vs : List Nat} {tg : DG} {body : DS} {D : Ends} {σ : L2.St} {H : Hp} (h : LS K TT E (dFor fi tg body) D σ H) : tFor (LI K TT E fi) (LG K vs tg) (LS K TT E body) D σ H := by
  obtain ⟨ρ, n, P, r, f, k⟩ := h
  refine ⟨ρ, n, _, P.ex, r, f, fun ds m J H1 q e it => ?_, k.ex.toE⟩
  have k1 := k.mono e.toFra
  refine ⟨fun i j σ' H' => j = ds.length - i ∧ i ≤ ds.length ∧ ∃ ρ' m', Rel K ρ' m' σ' H' ∧ Fra TT m H1 m' H' ∧ loop tg body P (ds.drop i) ρ' m', ⟨ds.length, by simp, Nat.zero_le _, ρ, m, r.fre e, .refl, q⟩, ?_⟩
  rintro i j σ' H' ⟨rfl, hi, ρ', m', r', g, l⟩
  by_cases hlt : i < ds.length
  · rw [List.drop_eq_getElem_cons hlt] at l
    refine .inr ⟨it.goes i _ _ hlt g, fun σ2 H2 => ∃ ρ2 m2, Rel K ρ2 m2 σ2 H2 ∧ Fra TT m H1 m2 H2 ∧ loop tg body P (ds.drop (i + 1)) ρ2 m2, fun σ2 H2 z => ⟨ds.length - (i + 1), by omega, rfl, hlt, z⟩, fun x H2 y => ?_⟩
    obtain ⟨gr, sx⟩ := it.yields i m' H' x H2 _ (List.getElem?_eq_getElem hlt) g y
    have g2 := g.trans (.grow gr)
    refine ⟨ρ', m', _, _, r'.grow gr, sx H2 g2 (fun _ _ e _ => e), l, fun ρ3 σ3 b3 r3 _ => ⟨ρ3, m', _, r3, b3, ?_⟩⟩
    exact ⟨fun ρ4 m4 σ4 H4 q4 g4 r4 => ⟨ρ4, m4, r4, g2.trans g4, q4⟩, fun d m4 v H4 q4 g4 s4 => k1.rt d m4 v H4 q4 (g2.trans g4) s4, fun ρ4 m4 σ4 H4 q4 g4 r4 => k1.nx ρ4 m4 σ4 H4 q4 (g2.trans g4) r4, fun ρ4 m4 σ4 H4 q4 g4 r4 => ⟨ρ4, m4, r4, g2.trans g4, q4⟩, k1.ex.mono g2⟩
  · have e : i = ds.length := by omega
    subst e
    rw [List.drop_length] at l
    exact .inl ⟨it.stops _ _ g, k1.nx ρ' m' σ' H' l g r'⟩
theorem ds_for {iter tg : Expr} {body : List Stmt} {fi : DI} {vs : List Nat} {g : DG} {gb : DS} (hp : PassesOwn (model X.prog X.w) X.A X.env X.xe) (hc : X.calm = true) (hi : PI X tg iter (LI K TT E fi)) (hg : PG X tg (LG K vs g)) (hb : PSs X body (LS K TT E gb))
    (hs : ∀ x, foldedSetIterable iter X.env x = pure x := by intro _; rfl) : PS X (.For tg iter body [] pos) (LS K TT E (dFor fi g gb)) := (ps_for hp hc hi hg hb hs).imp fun _ _ _ h => h.for
end
end Aim

namespace Aim
open PySem PySem.Spec PyProof.Rows L2
open LamX (TabB Tabs CodeO)
section
variable {K : PySem.W.Frag} {TT : List (Addr × Str)} {E : XK} {X : Cx} {n m : Nat} {H H' : Hp} {ρ : List Sl} {σ : L2.St}
/-! ### a new list: held alone at first, then data -/
theorem own_perm {a b : Addr} {xs : List V} {o : HO} (l : xs.length ≤ sizeLine) (h : H a = some (OwnO xs a)) (e : H b = some o) (p : Perm b o) : b ≠ a := fun z => by
  subst z
  rw [h] at e
  exact p.2.1 xs (Option.some.inj e).symm
/-- an own list is told as a list -/
theorem Fra.melt {a : Addr} {xs ys : List V} (l : xs.length ≤ sizeLine) (h : H a = some (OwnO xs a)) : Fra TT n H n (upd H a (.lst ys)) := by
  refine ⟨Nat.le_refl _, fun b o e p => by rw [upd_ne (own_perm l h e p)]; exact e, fun b k q e => ⟨k, q, ?_⟩, fun t x hx => ?_⟩
  · rw [upd_ne fun z => ?_]
    · exact e
    · subst z
      rw [h] at e
      exact own_pot (Option.some.inj e)
  · obtain ⟨ps, h1, h2, h3⟩ := t x hx
    refine ⟨ps, ?_, h2, fun pos cv hc => ?_⟩
    · rw [upd_ne fun z => ?_]
      · exact h1
      · rw [z, h] at h1
        unfold OwnO at h1
        cases h1
    · obtain ⟨c, e1, e2⟩ := h3 pos cv hc
      refine ⟨c, e1, ?_⟩
      rw [upd_ne fun z => ?_]
      · exact e2
      · subst z
        rw [h] at e2
        exact own_code (Option.some.inj e2).symm
theorem upd_back {a : Addr} {o u : HO} (h : H a = some o) : upd (upd H a u) a o = H := by rw [upd_upd, upd_self h]
/-- the reading of an expression that makes a new list: the list stands at p, nothing else knows of it -/
def LF (K : PySem.W.Frag) (TT : List (Addr × Str)) (E : XK) (f : DA) : TE := fun σ H Q => ∃ ρ n P R, Rel K ρ n σ H ∧ f ρ n P R ∧
  (∀ ds m xs p H', P ds m → (∀ ys, H p ≠ some (OwnO ys p)) → H' p = some (.lst xs) → xs.length ≤ sizeLine → Fre TT n H m (upd H' p (OwnO xs p)) → SeesL K m (upd H' p (OwnO xs p)) xs ds → Q (.ref p) H') ∧ ExE K TT E n H R
def dFr (f : DA) : DE := fun ρ n P R => f ρ n (fun ds m => P (.lst ds) m) R
theorem Fre.new_list {p : Addr} {xs : List V} (h0 : ∀ ys, H p ≠ some (OwnO ys p)) (h1 : H' p = some (.lst xs)) (l : xs.length ≤ sizeLine) (e : Fre TT n H m (upd H' p (OwnO xs p))) : Fre TT n H m H' := by
  have b : upd (upd H' p (OwnO xs p)) p (.lst xs) = H' := upd_back h1
  refine ⟨?_, fun c ys q => ?_⟩
  · have z := e.toFra.trans (Fra.melt (ys := xs) l (show upd H' p (OwnO xs p) p = some (OwnO xs p) from upd_same))
    rw [b] at z
    exact z
  · have z := e.own c ys q
    rw [upd_ne fun w => h0 ys (by rw [← w]; exact q)] at z
    exact z
theorem sees_new {p : Addr} {xs : List V} {ds : List Dat} (h1 : H' p = some (.lst xs)) (l : xs.length ≤ sizeLine) (s : SeesL K m (upd H' p (OwnO xs p)) xs ds) : Sees K m H' (.ref p) (.lst ds) := by
  have b : upd (upd H' p (OwnO xs p)) p (.lst xs) = H' := upd_back h1
  have z := s.mono (TT := []) (Fra.melt (ys := xs) l (show upd H' p (OwnO xs p) p = some (OwnO xs p) from upd_same))
  rw [b] at z
  exact .lstOf h1 l z
theorem LE.fr {f : DA} {σ : L2.St} {H : Hp} {Q : VK} (h : LE K TT E (dFr f) σ H Q) : LF K TT E f σ H Q := by
  obtain ⟨ρ, n, P, R, r, g, k, x⟩ := h
  exact ⟨ρ, n, _, R, r, g, fun ds m xs p H' q h0 h1 l e s => k _ m _ H' q (e.new_list h0 h1 l) (sees_new h1 l s), x⟩
theorem de_fr {e : Expr} {f : DA} (h : PE X e (LF K TT E f)) : PE X e (LE K TT E (dFr f)) := h.imp fun _ _ _ q => q.fr
/-- a new list, as the rules tell it: at p, with its items seen before -/
theorem lf_grow {P : List Dat → Nat → Prop} {Q : VK} {p : Addr} {xs : List V} {ds : List Dat} {H1 : Hp} (k : ∀ ds m xs p H', P ds m → (∀ ys, H p ≠ some (OwnO ys p)) → H' p = some (.lst xs) → xs.length ≤ sizeLine → Fre TT n H m (upd H' p (OwnO xs p)) → SeesL K m (upd H' p (OwnO xs p)) xs ds → Q (.ref p) H')
    (q : P ds m) (e : Fre TT n H m H1) (hp : H1 p = none) (l : xs.length ≤ sizeLine) (s : SeesL K m H1 xs ds) : Q (.ref p) (upd H1 p (.lst xs)) := by
  have g : Grow H1 (upd H1 p (OwnO xs p)) := .new hp
  have b : upd (upd H1 p (.lst xs)) p (OwnO xs p) = upd H1 p (OwnO xs p) := upd_upd
  refine k ds m xs p _ q (fun ys w => by rw [e.own p ys w] at hp; cases hp) upd_same l ?_ ?_
  · rw [b]
    exact e.trans (.grow g)
  · rw [b]
    exact s.grow g
end
/-! ### the new list of a comprehension, hidden from what runs in it -/
section
variable {K : PySem.W.Frag} {TT : List (Addr × Str)} {E : XK} {X : Cx} {e : Expr}
theorem to_own {pins : List (Addr × Obj)} {σ : L2.St} {H : Hp} {s : Shared} {D : Addr} {xs : List V} (I : Inv X pins σ H s) (h : H D = some (.lst xs)) : Inv X pins σ (upd H D (OwnO xs D)) s := by
  obtain ⟨l, its, k, rv, hg⟩ := (show ObjOk X.prog X.w H s.heap D (.lst xs) from I.hok D _ h)
  exact retell I (by rw [h]; exact True.intro) ⟨_, hg⟩ (OwnO.ok l rv hg)
theorem of_own {pins : List (Addr × Obj)} {σ : L2.St} {H : Hp} {s : Shared} {D : Addr} {xs : List V} (I : Inv X pins σ H s) (h : H D = some (OwnO xs D)) : Inv X pins σ (upd H D (.lst xs)) s := by
  obtain ⟨l, its, k, rv, hg⟩ := OwnO.at I.hok h
  exact retell I (by rw [h]; exact True.intro) ⟨_, hg⟩ ⟨l, its, k, rv, hg⟩
def tHide (t : TE) : TE := fun σ H Q => ∃ D xs, H D = some (.lst xs) ∧ t σ (upd H D (OwnO xs D)) fun v H' => H' D = some (OwnO xs D) ∧ Q v (upd H' D (.lst xs))
def tHideT (t : L2.TT) : L2.TT := fun σ H Q => ∃ D xs, H D = some (.lst xs) ∧ t σ (upd H D (OwnO xs D)) fun v H' => H' D = some (OwnO xs D) ∧ Q v (upd H' D (.lst xs))
def gHide (t : TG) : TG := fun v σ H Q => ∃ D xs, H D = some (.lst xs) ∧ t v σ (upd H D (OwnO xs D)) fun σ' H' => H' D = some (OwnO xs D) ∧ Q σ' (upd H' D (.lst xs))
theorem pe_hide {t : TE} (h : PE X e t) : PE X e (tHide t) := ⟨fun pins s σ H Q I ⟨D, xs, hD, q⟩ => thn (h.run pins s σ _ _ (to_own I hD) q) fun u s' ⟨v, H', J, r, e1, q'⟩ => ⟨v, _, of_own J e1, r, q'⟩⟩
theorem pts_hide {es : List Expr} {t : L2.TT} (h : PTs X es t) : PTs X es (tHideT t) := ⟨fun pins s σ H Q I ⟨D, xs, hD, q⟩ => thn (h.run pins s σ _ _ (to_own I hD) q) fun b s' ⟨H', J, e1, q'⟩ => ⟨_, of_own J e1, q'⟩⟩
theorem pg_hide {t : TG} (h : PG X e t) : PG X e (gHide t) := ⟨fun pins s σ H v u Q I r ⟨D, xs, hD, q⟩ => thn (h.run pins s σ _ v u _ (to_own I hD) r q) fun _ s' ⟨σ', H', J, e1, q'⟩ => ⟨σ', _, of_own J e1, q'⟩⟩
theorem dts_nil : PTs X [] (LTs K TT E fun _ n P _ => P true n) := ⟨fun pins s σ H Q I h => pts_nil.run pins s σ H Q I (by obtain ⟨ρ, n, P, R, r, f, k, x⟩ := h; exact k true n H f .refl)⟩
theorem dts_one {c : Expr} {t : DT} (h : PT X c (LTs K TT E t)) : PTs X [c] (LTs K TT E t) := pts_one h
theorem wipe_wipe (σ : L2.St) (l : List Nat) : wipe (wipe σ l) l = wipe σ l := by
  apply List.ext_getElem?
  intro j
  rw [wipe_get, wipe_get]
  by_cases hj : j ∈ l
  · simp only [hj, if_true]
    cases σ[j]? <;> rfl
  · simp only [hj, if_false]
/-- the slots within a comprehension -/
def wiped (ρ : List Sl) : List Nat → List Sl
  | [] => ρ
  | i :: l => (wiped ρ l).set i .no
theorem Rel.wipe {ρ : List Sl} {n : Nat} {σ : L2.St} {H : Hp} (r : Rel K ρ n σ H) : ∀ l, Rel K (wiped ρ l) n (wipe σ l) H
  | [] => r
  | _ :: l => (Rel.wipe r l).drop
def comp (l : List Nat) (tg : DG) (tt : DT) (fe : DE) (ρ : List Sl) (P : List Dat → Nat → Prop) : List Dat → List Dat → Nat → Prop
  | [], acc, m => P acc m
  | d :: ds, acc, m => tg d (wiped ρ l) fun ρ' => tt ρ' m (fun b k => if b = true then fe ρ' k (fun y j => comp l tg tt fe ρ P ds (acc ++ [y]) j) R0 else comp l tg tt fe ρ P ds acc k) R0
def dLc (fi : DI) (l : List Nat) (tg : DG) (tt : DT) (fe : DE) : DA := fun ρ n P R => fi ρ n (fun ds m => comp l tg tt fe ρ P ds [] m) R
theorem LF.lc {fi : DI} {l vs : List Nat} {tg : DG} {tt : DT} {fe : DE} {σ : L2.St} {H : Hp} {Q : VK} (hl : ∀ i ∈ vs, i ∈ l) (h : LF K TT E (dLc fi l tg tt fe) σ H Q) : tLc (LI K TT E fi) (gHide (LG K vs tg)) (tHideT (LTs K TT E0 tt)) (tHide (LE K TT E0 fe)) l σ H Q := by
  obtain ⟨ρ, n, P, R, r, f, k, x⟩ := h
  refine ⟨ρ, n, _, R, r, f, fun ds m J H1 q e it D hD => ?_, x⟩
  have tab1 := e.tab x.tab
  have r1 := r.fre e
  have hD0 : ∀ ys, H D ≠ some (OwnO ys D) := fun ys w => by rw [e.own D ys w] at hD; cases hD
  refine ⟨fun i j H' => j = ds.length - i ∧ i ≤ ds.length ∧ ∃ m' xs as, H' D = some (.lst xs) ∧ xs.length ≤ i ∧ Fre TT m H1 m' (upd H' D (OwnO xs D)) ∧ SeesL K m' (upd H' D (OwnO xs D)) xs as ∧ comp l tg tt fe ρ P (ds.drop i) as m', ⟨ds.length, by simp, Nat.zero_le _, m, [], [], upd_same, Nat.le_refl _, ?_, .nil, q⟩, ?_⟩
  · rw [upd_upd]
    exact .grow (.new hD)
  rintro i j H' ⟨rfl, hi, m', xs, as, hx, hl', g, sx, c⟩
  by_cases hlt : i < ds.length
  · rw [List.drop_eq_getElem_cons hlt] at c
    have lx : xs.length ≤ sizeLine := Nat.le_trans hl' (Nat.le_trans hi it.len)
    have back : upd (upd H' D (OwnO xs D)) D (.lst xs) = H' := upd_back hx
    have gm : Fra TT m H1 m' H' := by
      have z := g.toFra.trans (Fra.melt (TT := TT) (n := m') (ys := xs) lx (show upd H' D (OwnO xs D) D = some (OwnO xs D) from upd_same))
      rw [back] at z
      exact z
    refine .inr ⟨it.goes i _ _ hlt gm, fun H2 => ∃ m2 ys bs, H2 D = some (.lst ys) ∧ ys.length ≤ i + 1 ∧ Fre TT m H1 m2 (upd H2 D (OwnO ys D)) ∧ SeesL K m2 (upd H2 D (OwnO ys D)) ys bs ∧ comp l tg tt fe ρ P (ds.drop (i + 1)) bs m2, fun H2 z => ⟨ds.length - (i + 1), by omega, rfl, hlt, z⟩, fun x H2 y => ?_⟩
    obtain ⟨gr, sx2⟩ := it.yields i m' H' x H2 _ (List.getElem?_eq_getElem hlt) gm y
    have hx2 : H2 D = some (.lst xs) := gr _ _ hx
    have gr2 : Grow (upd H' D (OwnO xs D)) (upd H2 D (OwnO xs D)) := fun b o w => by
      by_cases hb : b = D
      · subst hb
        rw [upd_same] at w ⊢
        exact w
      · rw [upd_ne hb] at w ⊢
        exact gr b o w
    have g2 : Fre TT m H1 m' (upd H2 D (OwnO xs D)) := g.trans (.grow gr2)
    have sx3 := sx2 _ g2.toFra fun b o w1 w2 => by
      rw [upd_ne fun z => by rw [z, hx] at w2; cases w2]
      exact w1
    refine ⟨D, xs, hx2, _, m', _, _, (r1.fre g2).wipe l, sx3, c, fun ρ3 σ3 q3 r3 w3 => ⟨upd_same, ?_⟩⟩
    rw [upd_back hx2]
    refine ⟨(w3 l hl).trans ?_, D, xs, hx2, ρ3, m', _, _, r3, q3, fun b m3 H3 q4 e3 => ⟨e3.own _ _ upd_same, ?_⟩, .zero (g2.tab tab1)⟩
    · exact wipe_wipe σ l
    · have o3 : H3 D = some (OwnO xs D) := e3.own _ _ upd_same
      have b3 : upd (upd H3 D (.lst xs)) D (OwnO xs D) = H3 := upd_back o3
      have g3 := g2.trans e3
      cases b with
      | true =>
        refine ⟨D, xs, upd_same, ?_⟩
        rw [b3]
        refine ⟨ρ3, m3, _, _, r3.fre e3, q4, fun d4 m4 v4 H4 q5 e4 s4 => ⟨e4.own _ _ o3, xs, upd_same, ?_, m4, xs ++ [v4], as ++ [d4], upd_same, by simp; omega, ?_, ?_, q5⟩, .zero (g3.tab tab1)⟩
        · have := it.len
          omega
        all_goals rw [upd_upd, upd_upd]
        · refine ⟨(g3.trans e4).toFra.trans (.own (e4.own _ _ o3) lx), fun b ys w => ?_⟩
          rw [upd_ne fun z => by rw [z, hD] at w; cases w]
          exact (g3.trans e4).own b ys w
        · have fo : Fra TT m4 H4 m4 (upd H4 D (OwnO (xs ++ [v4]) D)) := .own (e4.own _ _ o3) lx
          exact ((((sx.grow gr2).mono e3.toFra).mono e4.toFra).mono fo).append (.cons (s4.mono fo) .nil)
      | false =>
        refine ⟨m3, xs, as, upd_same, by omega, ?_, ?_, q4⟩
        all_goals rw [b3]
        · exact g3
        · exact ((sx.grow gr2).mono e3.toFra)
  · have e2 : i = ds.length := by omega
    subst e2
    rw [List.drop_length] at c
    have lx : xs.length ≤ sizeLine := Nat.le_trans hl' it.len
    have back : upd (upd H' D (OwnO xs D)) D (.lst xs) = H' := upd_back hx
    have gm : Fra TT m H1 m' H' := by
      have z := g.toFra.trans (Fra.melt (TT := TT) (n := m') (ys := xs) lx (show upd H' D (OwnO xs D) D = some (OwnO xs D) from upd_same))
      rw [back] at z
      exact z
    exact .inl ⟨it.stops _ _ gm, k as m' xs D H' c hD0 hx lx (e.trans g) sx⟩
end
end Aim

namespace Aim
open PySem PySem.Spec PyProof.Rows L2
open LamX (TabB Tabs CodeO)
section
variable {K : PySem.W.Frag} {TT : List (Addr × Str)} {E : XK} {X : Cx} {e elt tg iter : Expr} {st : Stmt} {pos spos : Pos}
theorem lf_lc {ifs : List Expr} {scope : Scope} {own : List (Str × Nat)} {fi : DI} {vs : List Nat} {g : DG} {tt : DT} {fe : DE} (hc : X.calm = true) (hN : X.N.Nodup) (hi : PI X tg iter (LI K TT E fi)) (ok : BlkOk X.N X.env.scope scope own)
    (hg : ∀ (s : Shared) (H : Hp) (C : Addr) (cl : List (Str × Addr)) (fp : List Addr), PG (X.blk s H scope (compEnvC scope cl C X.env) fp) tg (LG K vs g)) (ht : ∀ (s : Shared) (H : Hp) (C : Addr) (cl : List (Str × Addr)) (fp : List Addr), PTs (X.blk s H scope (compEnvC scope cl C X.env) fp) ifs (LTs K TT E0 tt))
    (he : ∀ (s : Shared) (H : Hp) (C : Addr) (cl : List (Str × Addr)) (fp : List Addr), PE (X.blk s H scope (compEnvC scope cl C X.env) fp) elt (LE K TT E0 fe)) (hl : ∀ i ∈ vs, i ∈ own.map (·.2) := by simp) (hs : ∀ x, foldedSetIterable iter X.env x = pure x := by intro _; rfl) :
    PE X (.ListComp elt [⟨tg, iter, ifs, 0⟩] scope pos) (LF K TT E (dLc fi (own.map (·.2)) g tt fe)) := (pe_lc hc hN hi ok (fun s H C cl fp => pg_hide (hg s H C cl fp)) (fun s H C cl fp => pts_hide (ht s H C cl fp)) (fun s H C cl fp => pe_hide (he s H C cl fp)) hs).imp fun _ _ _ h => h.lc hl
theorem st_lc {i : Nat} {y : Str} {py : Pos} {ifs : List Expr} {scope : Scope} {own : List (Str × Nat)} {fi : DI} {vs : List Nat} {g : DG} {tt : DT} {fe : DE} (hc : X.calm = true) (hN : X.N.Nodup) (hy : X.N[i]? = some y) (hyl : X.env.scope.names.lookup y = some .local)
    (hsw : swapsWith (.ListComp elt [⟨tg, iter, ifs, 0⟩] scope pos) (some (.Name y py)) spos.line X.env = pure true) (hi : PI X tg iter (LI K TT E fi)) (ok : BlkOk X.N X.env.scope scope own)
    (hg : ∀ (s : Shared) (H : Hp) (C : Addr) (cl : List (Str × Addr)) (fp : List Addr), PG (X.blk s H scope (compEnvC scope cl C X.env) fp) tg (LG K vs g)) (ht : ∀ (s : Shared) (H : Hp) (C : Addr) (cl : List (Str × Addr)) (fp : List Addr), PTs (X.blk s H scope (compEnvC scope cl C X.env) fp) ifs (LTs K TT E0 tt))
    (he : ∀ (s : Shared) (H : Hp) (C : Addr) (cl : List (Str × Addr)) (fp : List Addr), PE (X.blk s H scope (compEnvC scope cl C X.env) fp) elt (LE K TT E0 fe)) (hl : ∀ i ∈ vs, i ∈ own.map (·.2) := by simp) (hs : ∀ x, foldedSetIterable iter X.env x = pure x := by intro _; rfl) :
    PS X (.Assign [.Name y py] (.ListComp elt [⟨tg, iter, ifs, 0⟩] scope pos) spos) (tAsg (LF K TT E (dLc fi (own.map (·.2)) g tt fe)) (gName i)) := (ps_setLc hc hN hy hyl hsw hi ok (fun s H C cl fp => pg_hide (hg s H C cl fp)) (fun s H C cl fp => pts_hide (ht s H C cl fp)) (fun s H C cl fp => pe_hide (he s H C cl fp)) hs).imp fun D σ H h => by
  have h : LF K TT E _ σ H (fun x H1 => gName i x σ H1 D.nx) := h
  exact h.lc hl
/-- x = a new list: as data -/
theorem LS.setF {i : Nat} {f : DA} {D : Ends} {σ : L2.St} {H : Hp} (h : LS K TT E (dAsg (dFr f) (dgName i)) D σ H) : tAsg (LF K TT E f) (gName i) D σ H := by
  obtain ⟨ρ, n, P, r, q, k⟩ := h
  refine ⟨ρ, n, _, P.ex, r, q, fun ds m xs p H' z h0 h1 l e s => ?_, k.ex.toE⟩
  have e' := e.new_list h0 h1 l
  exact k.nx _ m _ H' z e'.toFra ((r.fre e').put (sees_new h1 l s))
theorem ds_setF {i : Nat} {f : DA} (h : PS X st (tAsg (LF K TT E f) (gName i))) : PS X st (LS K TT E (dAsg (dFr f) (dgName i))) := h.imp fun _ _ _ h => h.setF
/-- x = a new list: as the slot's own -/
def dOwn (i : Nat) (f : DA) : DS := fun P ρ n => f ρ n (fun ds m => P.nx (ρ.set i (.own ds)) m) P.ex
theorem ps_own {t : TS} (h : PS X st t) : PS X st (fun D σ H => t { D with nx := fun σ' H' => ∃ a xs, H' a = some (.lst xs) ∧ D.nx σ' (upd H' a (OwnO xs a)) } σ H) := ⟨fun pins s σ H D I q => thn (h.run pins s σ H _ I q) fun f s1 z => by
  cases f with
  | next =>
    obtain ⟨σ', H', J, a, xs, e, q⟩ := z
    exact ⟨σ', _, to_own J e, q⟩
  | ret v => exact z
  | brk => exact z
  | cont => exact z⟩
theorem ds_own {i : Nat} {f : DA} (h : PS X st (tAsg (LF K TT E f) (gName i))) : PS X st (LS K TT E (dOwn i f)) := (ps_own h).imp fun D σ H h => by
  obtain ⟨ρ, n, P, r, q, k⟩ := h
  refine ⟨ρ, n, _, P.ex, r, q, fun ds m xs p H' z h0 h1 l e s => ⟨p, xs, h1, ?_⟩, k.ex.toE⟩
  refine k.nx _ m _ _ z e.toFra ((r.fre e).putOwn l upd_same s fun j b hj o w => ?_)
  obtain ⟨ds', e1⟩ := o.1
  obtain ⟨a', xs', e2, l', e3, _⟩ := r.owned e1
  rw [o.2] at e2
  cases e2
  subst w
  exact h0 _ e3
/-! ### lists of one's own, written -/
def ownOf : Sl → (List Dat → Prop) → Prop
  | .own ds, P => P ds
  | _, _ => False
theorem ownOf_of {ρ : List Sl} {i : Nat} {P : List Dat → Prop} (h : ownOf (slAt ρ i) P) : ∃ ds, ρ[i]? = some (.own ds) ∧ P ds := by
  cases e : slAt ρ i with
  | own ds => rw [e] at h; exact ⟨ds, slAt_of e (by simp), h⟩
  | _ => rw [e] at h; exact h.elim
theorem Rel.here {ρ : List Sl} {n : Nat} {σ : L2.St} {H : Hp} {i : Nat} {s : Sl} {o : Option V} (r : Rel K ρ n σ H) (h : ρ[i]? = some s) (h2 : σ[i]? = some o) : ρ.set i s = ρ ∧ σ.set i o = σ := by
  obtain ⟨a, b⟩ := List.getElem?_eq_some_iff.mp h
  obtain ⟨c, d⟩ := List.getElem?_eq_some_iff.mp h2
  exact ⟨by rw [← b]; simp, by rw [← d]; simp⟩
/-- the own list at slot i is written -/
theorem Rel.write {ρ : List Sl} {n : Nat} {σ : L2.St} {H : Hp} {i : Nat} {a : Addr} {xs ys : List V} {ds es : List Dat} (r : Rel K ρ n σ H) (h : ρ[i]? = some (.own ds)) (h2 : σ[i]? = some (some (.ref a))) (l : xs.length ≤ sizeLine) (e : H a = some (OwnO xs a)) (l2 : ys.length ≤ sizeLine) (s : SeesL K n H ys es) : Rel K (ρ.set i (.own es)) n σ (upd H a (OwnO ys a)) := by
  have fo : Fra [] n H n (upd H a (OwnO ys a)) := .own e l
  have me : Owns ρ σ i a := ⟨⟨ds, h⟩, h2⟩
  have z := (Rel.drop (i := i) (o := none) r).mono fo fun j b zs ow lz eb => by
    rw [upd_ne]
    intro w
    subst w
    obtain ⟨⟨ds', e1⟩, e2⟩ := ow
    by_cases hij : i = j
    · subst hij
      rw [List.getElem?_set] at e1
      split at e1
      · split at e1 <;> cases e1
      · rename_i w
        exact w rfl
    · rw [List.getElem?_set_ne hij] at e1 e2
      exact r.ap i j b b hij me ⟨⟨ds', e1⟩, e2⟩ rfl
  have q := z.putOwn (i := i) (a := a) (xs := ys) (ds := es) l2 upd_same (s.mono fo) fun j b hj ow w => by
    subst w
    obtain ⟨⟨ds', e1⟩, e2⟩ := ow
    rw [List.getElem?_set_ne (Ne.symm hj)] at e1 e2
    exact r.ap i j b b (Ne.symm hj) me ⟨⟨ds', e1⟩, e2⟩ rfl
  simp only [List.set_set] at q
  rw [(r.here h h2).2] at q
  exact q
/-- a method of a list that writes it -/
abbrev GO := List Dat → List Dat → (List Dat → Prop) → Prop
def OwnD (K : PySem.W.Frag) (r : V → List V → Hp → VK → Prop) (g : GO) : Prop := ∀ (n : Nat) (l : Addr) (xs vs : List V) (ds as : List Dat) (G H : Hp) (Q : VK) (P : List Dat → Prop), g ds as P → SeesL K n G xs ds → SeesL K n G vs as → H l = some (.lst xs) → xs.length ≤ sizeLine → (∀ ds' xs', P ds' → SeesL K n G xs' ds' → xs'.length ≤ sizeLine → Q .non (upd H l (.lst xs'))) → r (.ref l) vs H Q
def tOM (i : Nat) (r : V → List V → Hp → VK → Prop) (t : TA) : TS := fun D σ H => ∃ l xs, σ[i]? = some (some (.ref l)) ∧ H l = some (OwnO xs l) ∧ t σ H fun vs H1 => ∃ ys, H1 l = some (OwnO ys l) ∧ r (.ref l) vs (upd H1 l (.lst ys)) fun _ H2 => ∃ zs, H2 l = some (.lst zs) ∧ D.nx σ (upd H2 l (OwnO zs l))
theorem ps_om {i : Nat} {x name : Str} {id : String} {r : V → List V → Hp → VK → Prop} {es : List Expr} {t : TA} {p apos cpos : Pos} (slot : Slot "list" name id) (hty : typeOf (.builtin id) = pure (.type "method_descriptor")) (hm : MtR X id r) (hN : X.N[i]? = some x) (hv : Vis X.env.scope x) (ha : PA X (e :: es) t) (hd : (x == ("__debug__" : Str)) = false := by decide) (hcd : (x == ("__classdict__" : Str)) = false := by decide)
    (hbase : attributeBase (.Name x p) name X.env (eval (.Name x p) X.env) = eval (.Name x p) X.env := by rfl)
    (hfew : ((backTo cpos (starEach (e :: es) X.env)).all (fun x => !x.1) && (backToKw cpos (keywordEach [] X.env)).all (fun x => x.1.isSome)
      && decide ((e :: es).length + ([] : List Keyword).length + (if ([] : List Keyword).isEmpty then 0 else 1) < 30)) = true := by rfl)
    (hline : (apos.endLine == cpos.line) = true := by rfl) (hs : starEach (e :: es) X.env = (false, eval e X.env) :: starEach es X.env := by rfl) (hplain : (backTo cpos (starEach es X.env)).any (·.1) = false := by rfl)
    (hsw : swapsWith (.Call (.Attribute (.Name x p) name apos) (e :: es) [] cpos) none pos.line X.env = pure false := by rfl) :
    PS X (.Expr (.Call (.Attribute (.Name x p) name apos) (e :: es) [] cpos) pos) (tOM i r t) := by
  refine ⟨fun pins s σ H D I ⟨l, xs, hσ, hH, h⟩ => ?_⟩
  refine wpAny_Expr_any ?_ I.quiet hsw
  refine wpAny_Call_method_late hbase hfew hline rfl (thn ((pe_var (pos := p) hN hv hd hcd).run pins s σ H (fun v H1 => v = .ref l ∧ H1 = H) I ⟨_, hσ, rfl, rfl⟩) fun v s1 ⟨x, H1, I1, r1, ex, eH⟩ => ?_)
  subst ex
  subst eH
  obtain ⟨h1, h2⟩ := tyV_is (of_own I1 hH) r1 (.inl ⟨rfl, xs, SqL.of upd_same⟩)
  refine ⟨"list", id, PySem.F.plainAttrs_list, slot, hty, h1, h2, ?_⟩
  have hA := ha.run cpos pins s1 σ H1 _ I1 h
  rw [hs] at hA ⊢
  refine Calls.callWith_builtin (by show (false || (backTo cpos (starEach es X.env)).any (·.1)) = false; rw [hplain] <;> rfl) (Calls.evalArgs_plain ?_)
  refine thn hA fun us s2 ⟨vs, H2, I2, r2, ys, e2, q2⟩ => ?_
  refine thn (hm pins s2 σ _ (.ref l) vs v us _ (of_own I2 e2) r1 r2 q2) fun u s3 ⟨w, H3, I3, r3, zs, e3, q3⟩ => ?_
  exact ⟨σ, _, to_own I3 e3, q3⟩
def dOM (i : Nat) (g : GO) (f : DA) : DS := fun P ρ n => ownOf (slAt ρ i) fun _ => f ρ n (fun as m => ownOf (slAt ρ i) fun ds => g ds as fun ds' => P.nx (ρ.set i (.own ds')) m) P.ex
theorem ds_om {i : Nat} {r : V → List V → Hp → VK → Prop} {g : GO} {fr : DA} (o : OwnD K r g) (h : PS X st (tOM i r (LA K TT E fr))) : PS X st (LS K TT E (dOM i g fr)) := h.imp fun D σ H ⟨ρ, n, P, rl, q, k⟩ => by
  obtain ⟨ds, hρ, q⟩ := ownOf_of q
  obtain ⟨a, xs, hσ, l, hH, sx⟩ := rl.owned hρ
  refine ⟨a, xs, hσ, hH, ρ, n, _, P.ex, rl, q, fun as m vs H1 q1 e1 s1 => ?_, k.ex.toE⟩
  obtain ⟨ds', hρ', q1⟩ := ownOf_of q1
  rw [hρ] at hρ'
  cases hρ'
  have h1 := e1.own _ _ hH
  refine ⟨xs, h1, o m a xs vs ds as H1 _ _ _ q1 (sx.mono e1.toFra) s1 upd_same l fun ds' xs' q2 s2 l2 => ⟨xs', upd_same, ?_⟩⟩
  rw [upd_upd, upd_upd]
  exact k.nx _ m _ _ q2 (e1.toFra.trans (.own h1 l)) ((rl.fre e1).write hρ hσ l h1 l2 s2)
/-- an own list becomes data -/
def dMelt (i : Nat) (g : DS) : DS := fun P ρ n => ownOf (slAt ρ i) fun ds => g P (ρ.set i (.val (.lst ds))) n
theorem ds_melt {i : Nat} {g : DS} (h : PS X st (LS K TT E g)) : PS X st (LS K TT E (dMelt i g)) := ⟨fun pins s σ H D I ⟨ρ, n, P, rl, q, k⟩ => by
  obtain ⟨ds, hρ, q⟩ := ownOf_of q
  obtain ⟨a, xs, hσ, l, hH, sx⟩ := rl.owned hρ
  have fm : Fra TT n H n (upd H a (.lst xs)) := .melt l hH
  refine h.run pins s σ _ D (of_own I hH) ⟨_, n, P, ?_, q, k.mono fm⟩
  have me : Owns ρ σ i a := ⟨⟨ds, hρ⟩, hσ⟩
  have z := (Rel.drop (i := i) (o := none) rl).mono fm fun j b zs ow lz eb => by
    rw [upd_ne]
    intro w
    subst w
    obtain ⟨⟨ds', e1⟩, e2⟩ := ow
    by_cases hij : i = j
    · subst hij
      rw [List.getElem?_set] at e1
      split at e1
      · split at e1 <;> cases e1
      · rename_i w
        exact w rfl
    · rw [List.getElem?_set_ne hij] at e1 e2
      exact rl.ap i j b b hij me ⟨⟨ds', e1⟩, e2⟩ rfl
  have w := z.put (i := i) (Sees.lstOf (K := K) (n := n) (H := upd H a (.lst xs)) upd_same l (sx.mono fm))
  simp only [List.set_set] at w
  rw [(rl.here hρ hσ).2] at w
  exact w⟩
end
end Aim

namespace Aim
open PySem PySem.Spec PyProof.Rows L2
open LamX (TabB Tabs CodeO)
/-! ### calls: the callee is not told of lists that slots hold alone -/
def Prv (H : Hp) (b : Addr) : Prop := ∃ xs, H b = some (OwnO xs b)
open Classical in
noncomputable def cutO (H : Hp) : Hp := fun b => if Prv H b then none else H b
open Classical in
noncomputable def glueO (H G : Hp) : Hp := fun b => if Prv H b then H b else G b
section
variable {P : Program} {w : World} {K : PySem.W.Frag} {mg : Str → Option Value} {base : Heap} {TT : List (Addr × Str)} {n m : Nat} {H G : Hp} {h h' : Heap} {b : Addr} {o : HO}
theorem cutO_in (p : Prv H b) : cutO H b = none := if_pos p
theorem cutO_out (p : ¬ Prv H b) : cutO H b = H b := if_neg p
theorem glueO_in (p : Prv H b) : glueO H G b = H b := if_pos p
theorem glueO_out (p : ¬ Prv H b) : glueO H G b = G b := if_neg p
theorem cutO_some (e : cutO H b = some o) : ¬ Prv H b ∧ H b = some o := by
  by_cases p : Prv H b
  · rw [cutO_in p] at e
    cases e
  · rw [cutO_out p] at e
    exact ⟨p, e⟩
theorem cutO_none (e : H b = none) : cutO H b = none := by
  by_cases p : Prv H b
  · exact cutO_in p
  · rw [cutO_out p]
    exact e
theorem perm_pub (e : H b = some o) (p : Perm b o) : ¬ Prv H b := fun ⟨xs, z⟩ => by
  rw [e] at z
  exact p.2.1 xs (Option.some.inj z)
theorem pot_pub {k : Nat} (e : H b = some (PotO k b)) : ¬ Prv H b := fun ⟨xs, z⟩ => by
  rw [e] at z
  exact own_pot (Option.some.inj z).symm
theorem code_pub {q : Str} (e : H b = some (CodeO b q)) : ¬ Prv H b := fun ⟨xs, z⟩ => by
  rw [e] at z
  exact own_code (Option.some.inj z)
theorem tbl_pub {ps : Array Value} (e : H b = some (.tbl ps)) : ¬ Prv H b := fun ⟨xs, z⟩ => by
  rw [e] at z
  unfold OwnO at z
  cases z
theorem tabs_map {H G : Hp} (t : Tabs TT H) (k : ∀ b o, H b = some o → ¬ Prv H b → G b = some o) : Tabs TT G := fun x hx => by
  obtain ⟨ps, h1, h2, h3⟩ := t x hx
  refine ⟨ps, k _ _ h1 (tbl_pub h1), h2, fun pos cv hc => ?_⟩
  obtain ⟨c, e1, e2⟩ := h3 pos cv hc
  exact ⟨c, e1, k _ _ e2 (code_pub e2)⟩
theorem Fra.cut : Fra TT n H n (cutO H) := ⟨Nat.le_refl _, fun b o e p => by rw [cutO_out (perm_pub e p)]; exact e, fun b k l e => ⟨k, l, by rw [cutO_out (pot_pub e)]; exact e⟩, fun t => tabs_map t fun b o e p => by rw [cutO_out p]; exact e⟩
theorem Fre.glue (f : Fra TT n (cutO H) m G) (gone : ∀ b, Prv H b → G b = none) : Fre TT n H m (glueO H G) := by
  have z := Fra.cut.trans f
  have out : ∀ {b : Addr} {o : HO}, G b = some o → glueO H G b = some o := fun {b o} e => by
    rw [glueO_out fun p => by rw [gone b p] at e; cases e]
    exact e
  refine ⟨⟨z.le, fun b o e p => out (z.keep b o e p), fun b k l e => ?_, fun t => (z.tab t).ext fun b o e => out e⟩, fun b xs e => ?_⟩
  · obtain ⟨j, h1, h2⟩ := z.pot b k l e
    exact ⟨j, h1, out h2⟩
  · rw [glueO_in ⟨xs, e⟩]
    exact e
theorem grow_glue (gone : ∀ b, Prv H b → G b = none) : Grow G (glueO H G) := fun b o e => by
  rw [glueO_out fun p => by rw [gone b p] at e; cases e]
  exact e
theorem prv_there {P : Program} {w : World} (hok : HOk P w H h) (p : Prv H b) : ∃ o, h.get? b = some o := by
  obtain ⟨xs, e⟩ := p
  obtain ⟨_, its, k, _, q⟩ := OwnO.at hok e
  exact ⟨_, q⟩
theorem env0_cutO {A : Around} {outer : List Env} {s : Shared} (e : Env0 P w K mg base A outer s H) : Env0 P w K mg base A outer s (cutO H) := by
  refine ⟨e.frames, e.mod, fun b o q => ⟨(e.bs b o q).1, cutO_none (e.bs b o q).2⟩, e.bsz, e.funs, fun b q => cutO_none (e.frf b q), fun b o q => ?_, e.bare⟩
  obtain ⟨n, q⟩ := cutO_some q
  refine ok_beside (e.hok b o q) (fun c z => ?_) fun c xs z => ?_
  · rw [cutO_out (perm_pub z (perm_ext (fun _ z => nomatch z) fun _ z => nomatch z))]
    exact z
  · rw [cutO_out (perm_pub z (perm_ext (fun _ z => nomatch z) fun _ z => nomatch z))]
    exact z
theorem hok_glue {hB : Heap} (hok : HOk P w H h) (hokG : HOk P w G hB) (gone : ∀ b, Prv H b → G b = none) (kept : ∀ b, Prv H b → ∀ o, h.get? b = some o → hB.get? b = some o) : HOk P w (glueO H G) hB := fun b o e => by
  by_cases p : Prv H b
  · rw [glueO_in p] at e
    obtain ⟨xs, q⟩ := id p
    rw [q] at e
    cases e
    exact ok_hidden (by unfold OwnO; exact True.intro) (hok b _ q) (kept b p)
  · rw [glueO_out p] at e
    exact ok_beside (hokG b o e) (fun c z => grow_glue gone c _ z) fun c xs z => grow_glue gone c _ z
theorem ce_glueO {outer : List Env} {s s' : Shared} {Q : VK} {u : Value} (hok : HOk P w H s.heap) (frf : ∀ b ∈ frs outer, H b = none) (c : CE outer P w (cutO H) s (fun v G => (∀ b, Prv H b → G b = none) → Q v (glueO H G)) u s') : CE outer P w H s Q u s' := by
  obtain ⟨v, G, os, bare, un, hok', r, q⟩ := c
  have gone : ∀ b, Prv H b → G b = none := fun b hb => by
    obtain ⟨o, e⟩ := prv_there hok hb
    exact un.free b o e (cutO_in hb) (by simp)
  have kept : ∀ b, Prv H b → ∀ o, s.heap.get? b = some o → s'.heap.get? b = some o := fun b hb o e => by
    obtain ⟨u, e1⟩ := id hb
    exact un.keep b o e (cutO_in hb) (fun z => by rw [frf b z] at e1; cases e1) (by simp)
  refine ⟨v, glueO H G, os, bare, ⟨fun b o e n => un.keep b o e (cutO_none n), fun b o e n => un.slot b o e (cutO_none n), fun b o e n x => ?_, un.there, fun b xs e => ?_, fun b o u e => ?_, fun b ps e => ?_⟩, hok_glue hok hok' gone kept, r, q gone⟩
  · by_cases hb : Prv H b
    · rw [glueO_in hb]
      exact n
    · rw [glueO_out hb]
      exact un.free b o e (cutO_none n) x
  · have p := perm_pub e (perm_ext (fun _ z => nomatch z) fun _ z => nomatch z)
    rw [glueO_out p]
    exact un.tups b xs (by rw [cutO_out p]; exact e)
  · have p := perm_pub e (perm_ext (fun _ z => nomatch z) fun _ z => nomatch z)
    rw [glueO_out p]
    exact un.frzs b o u (by rw [cutO_out p]; exact e)
  · have p := tbl_pub e
    rw [glueO_out p]
    exact un.tbls b ps (by rw [cutO_out p]; exact e)
theorem cx_glueO {outer : List Env} {s s' : Shared} {E : XK} {u : Value} (hok : HOk P w H s.heap) (frf : ∀ b ∈ frs outer, H b = none) (c : L2.CX P w outer (cutO H) s (fun c d G => (∀ b, Prv H b → G b = none) → E c d (glueO H G)) u s') : L2.CX P w outer H s E u s' := by
  obtain ⟨a, B, G, cls, d, eu, fl, hok', ub, na, os, bare, q⟩ := c
  have gone : ∀ b, Prv H b → G b = none := fun b hb => by
    obtain ⟨o, e⟩ := prv_there hok hb
    exact ub.free b o e (cutO_in hb)
  have kept : ∀ b, Prv H b → ∀ o, s.heap.get? b = some o → B.get? b = some o := fun b hb o e => by
    obtain ⟨u, e1⟩ := id hb
    exact ub.keep b o e (cutO_in hb) (fun z => by rw [frf b z] at e1; cases e1)
  refine ⟨a, B, glueO H G, cls, d, eu, fl, hok_glue hok hok' gone kept, ⟨fun b o e n => ub.keep b o e (cutO_none n), ub.slot, fun b o e n => ?_, ub.there, fun b xs e => ?_, fun b o u e => ?_, fun b ps e => ?_⟩, ?_, os, bare, q gone⟩
  · by_cases hb : Prv H b
    · rw [glueO_in hb]
      exact n
    · rw [glueO_out hb]
      exact ub.free b o e (cutO_none n)
  · have p := perm_pub e (perm_ext (fun _ z => nomatch z) fun _ z => nomatch z)
    rw [glueO_out p]
    exact ub.tups b xs (by rw [cutO_out p]; exact e)
  · have p := perm_pub e (perm_ext (fun _ z => nomatch z) fun _ z => nomatch z)
    rw [glueO_out p]
    exact ub.frzs b o u (by rw [cutO_out p]; exact e)
  · have p := tbl_pub e
    rw [glueO_out p]
    exact ub.tbls b ps (by rw [cutO_out p]; exact e)
  · by_cases hb : Prv H a
    · obtain ⟨o, e⟩ := prv_there hok hb
      have z := kept a hb o e
      rw [fl.2.1] at z
      cases z
    · rw [glueO_out hb]
      exact na
end
/-! ### promises by data -/
abbrev DSp := List Dat → Nat → (Dat → Nat → Prop) → RX → Prop
def LSp (K : PySem.W.Frag) (TT : List (Addr × Str)) (sp : DSp) : Sp := fun vs H Q E => ∃ ds n P R, SeesL K n H vs ds ∧ sp ds n P R ∧ (∀ d m v H', P d m → Fra TT n H m H' → Sees K m H' v d → Q v H') ∧ ExOk K TT E n H R
def spO (sp : Sp) : Sp := fun vs H Q E => sp vs (cutO H) (fun v G => (∀ b, Prv H b → G b = none) → Q v (glueO H G)) (fun c d G => (∀ b, Prv H b → G b = none) → E c d (glueO H G))
def dCall (sp : DSp) (fr : DA) : DE := fun ρ n P R => fr ρ n (fun ds m => sp ds m P R) R
section
variable {X : Cx} {TT : List (Addr × Str)} {E : XK} {k j : Nat} {G : Bool} {x : Str} {sp : DSp} {e : Expr} {es : List Expr} {fr : DA} {p pos : Pos}
theorem run_dfO {pins : List (Addr × Obj)} {σ : L2.St} {H : Hp} {s : Shared} {Q : VK} {f : Addr} {fd : FuncData} {ps : List Str} {us : List Value} {vs : List V} {sp : Sp} (F : Rn X.prog X.w X.K X.mg X.base G k f fd ps sp) (hr : Room k X.A) (hg : G = true → X.A.guards = some []) (hb : L2.Binds X.K fd ps [])
    (hx : Passes (L2.CX X.prog X.w) X E) (I : Inv X pins σ H s) (r : Vals vs us) (h : spO sp vs H Q E) : wpAny (model X.prog X.w) X.A (call (.ref f) us) (EP X pins σ Q) X.xe s := by
  have hl : vs.length = ps.length := F.len _ _ _ _ h
  have hb' := hb s us I.kIn (by rw [List.append_nil, ← r.length]; exact hl)
  rw [List.append_nil] at hb'
  refine wpAny_call (codeAny_mono (F.run (s := s) (args := ⟨us, []⟩) hr hg (env0_cutO I.env0) hb' r h) fun y s' hq => ?_)
  match y, hq with
  | .error e, hq => exact hx pins σ H s e s' I (cx_glueO I.hok I.env0.frf hq)
  | .ok (.ret u), hq => exact I.after (ce_glueO I.hok I.env0.frf hq)
theorem lsp_go {σ : L2.St} {H : Hp} {Q : VK} (h : LE X.K TT E (dCall sp fr) σ H Q) : LA X.K TT E fr σ H fun vs H1 => spO (LSp X.K TT sp) vs H1 Q E := by
  obtain ⟨ρ, n, P, R, r, f, k, x⟩ := h
  refine ⟨ρ, n, _, R, r, f, fun ds m vs H1 q e s => ⟨ds, m, P, R, s.mono (TT := TT) Fra.cut, q, fun d j v G p g t gone => ?_, ⟨(Fra.cut (n := m)).tab (e.tab x.tab), fun C d j dd v G p g hd t gone => ?_⟩⟩, x⟩
  · exact k d j v _ p (e.trans (.glue g gone)) (t.grow (grow_glue gone))
  · exact x.ex C d j dd v _ p (e.trans (Fre.glue g gone)) (grow_glue gone _ _ hd) (t.grow (grow_glue gone))
theorem de_call (d : Df X.prog X.w X.K X.mg X.base G k x (LSp X.K TT sp)) (hr : Room j X.A) (hk : k ≤ j) (hg : G = true → X.A.guards = some []) (gl : Gl X x) (hx : Passes (L2.CX X.prog X.w) X E) (ha : PA X (e :: es) (LA X.K TT E fr))
    (hdb : (x == ("__debug__" : Str)) = false := by decide) (he : starEach (e :: es) X.env = (false, eval e X.env) :: starEach es X.env := by rfl) (hpl : (backTo pos (starEach es X.env)).any (·.1) = false := by rfl) :
    PE X (.Call (.Name x p) (e :: es) [] pos) (LE X.K TT E (dCall sp fr)) := by
  obtain ⟨f, fd, ps, F, hm, hkp, hb⟩ := d.ex
  refine ⟨fun pins s σ H Q I h => wpAny_Call_Name_kw (ld_glob I gl hm ?_ hdb)⟩
  exact PySem.W.callWith_K (h₀ := X.base) I.ok.mod.kin hkp (thn (ha.run pos pins s σ H _ I (lsp_go h)) fun us s1 ⟨vs, H1, I1, r, q⟩ => ⟨I1.kIn, run_dfO F (hr.mono hk) hg hb hx I1 r q⟩) he hpl
theorem de_call0 (d : Df X.prog X.w X.K X.mg X.base G k x (LSp X.K TT sp)) (hr : Room j X.A) (hk : k ≤ j) (hg : G = true → X.A.guards = some []) (gl : Gl X x) (hx : Passes (L2.CX X.prog X.w) X E) (hdb : (x == ("__debug__" : Str)) = false := by decide) :
    PE X (.Call (.Name x p) [] [] pos) (LE X.K TT E (dCall sp dNil)) := by
  obtain ⟨f, fd, ps, F, hm, hkp, hb⟩ := d.ex
  refine ⟨fun pins s σ H Q I h => wpAny_Call_Name_kw (ld_glob I gl hm ?_ hdb)⟩
  refine PySem.W.callWith_K0 I.kIn hkp (run_dfO (us := []) F (hr.mono hk) hg hb hx I .nil ?_)
  obtain ⟨ρ, n, P, R, r, f, k, x⟩ := h
  refine ⟨[], n, P, R, .nil, f, fun d j v G p g t gone => ?_, ⟨(Fra.cut (n := n)).tab x.tab, fun C d j dd v G p g hd t gone => ?_⟩⟩
  · exact k d j v _ p (.glue g gone) (t.grow (grow_glue gone))
  · exact x.ex C d j dd v _ p (Fre.glue g gone) (grow_glue gone _ _ hd) (t.grow (grow_glue gone))
end
/-! ### a def's promise by its body -/
def dstart (N : List Str) (ds : List Dat) : List Sl := ds.map .val ++ List.replicate (N.length - ds.length) .no
theorem rel_start {K : PySem.W.Frag} {n : Nat} {H : Hp} {vs : List V} {ds : List Dat} (s : SeesL K n H vs ds) (N : List Str) : Rel K (dstart N ds) n (start N vs) H := by
  have l := s.length
  refine ⟨by simp [dstart, L2.start, l], fun i z e => ?_, fun i j a b ne o1 o2 => ?_⟩
  · unfold dstart at e
    rw [List.getElem?_append] at e
    unfold L2.start
    split at e
    · rename_i hi
      rw [List.getElem?_map] at e
      cases hd : ds[i]? with
      | none => rw [hd] at e; cases e
      | some d =>
        rw [hd] at e
        cases e
        obtain ⟨v, hv, sv⟩ := s.getD hd
        refine ⟨some v, ?_, .val sv⟩
        rw [List.getElem?_append, if_pos (by simp at hi ⊢; omega), List.getElem?_map, hv]
        rfl
    · rename_i hi
      simp only [List.length_map] at e hi
      obtain ⟨h1, h2⟩ := List.getElem?_eq_some_iff.mp e
      have h3 := h1
      rw [List.length_replicate] at h3
      refine ⟨none, ?_, ?_⟩
      · rw [List.getElem?_append, if_neg (by simp; omega)]
        rw [List.length_map, l, List.getElem?_replicate, if_pos h3]
      · simp at h2
        subst h2
        exact .no
  · obtain ⟨⟨ds', e⟩, _⟩ := o1
    exfalso
    unfold dstart at e
    rw [List.getElem?_append] at e
    split at e
    · rw [List.getElem?_map] at e
      cases hd : ds[i]? with
      | none => rw [hd] at e; cases e
      | some d => rw [hd] at e; cases e
    · obtain ⟨h1, h2⟩ := List.getElem?_eq_some_iff.mp e
      simp at h2
section
variable {P : Program} {w : World} {K : PySem.W.Frag} {mg : Str → Option Value} {base : Heap} {TT : List (Addr × Str)} {G : Bool} {x : Str} {st : Stmt} {N ps : List Str} {k : Nat} {sp : DSp}
theorem ends_of {E : XK} {g : DS} {vs : List V} {ds : List Dat} {n : Nat} {H : Hp} {Q : VK} {PP : Dat → Nat → Prop} {R : RX} (s : SeesL K n H vs ds) (q : g { nx := fun _ m => PP .non m, rt := PP, ex := R } (dstart N ds) n) (kQ : ∀ d m v H', PP d m → Fra TT n H m H' → Sees K m H' v d → Q v H') (kE : ExOk K TT E n H R) : LS K TT E g { nx := fun _ H' => Q .non H', rt := Q } (start N vs) H :=
  ⟨_, n, _, rel_start s N, q, ⟨fun ρ m σ H' p f _ => kQ _ m _ H' p f .non, kQ, fun _ _ _ _ z => z.elim, fun _ _ _ _ z => z.elim, kE⟩⟩
/-- a def that lets nothing out -/
theorem dat_ok (F : Has K mg x st) (hb : ∀ f fd, L2.Fun K x x st f fd → L2.Binds K fd ps []) (S : FnScope N ps (defScope st))
    (body : ∀ (f : Addr) (cdv : Value) (A : Around) (outer : List Env) (s : Shared) (H : Hp) (E : XK), Room k (A.deeper (envOfC x (defScope st) s.heap.objs.size f cdv)) → (G = true → A.guards = some []) →
      ∃ g, PSs (cxOf (L2.CX P w) P w K mg base N x (defScope st) f cdv A outer s H E).nox (defBody st) (LS K TT E0 g) ∧ ∀ ds n PP R, sp ds n PP R → ds.length = ps.length ∧ g { nx := fun _ m => PP .non m, rt := PP, ex := R0 } (dstart N ds) n)
    (hl : ∀ ds n PP R, sp ds n PP R → ds.length = ps.length) : Df P w K mg base G (k + 1) x (LSp K TT sp) := by
  obtain ⟨f, fd, F, hm⟩ := F.ex
  refine df_ok F hm (hb f fd F) S (fun vs H Q E h => ?_) (fun cdv A outer s H vs Q E hr hG h => ?_)
  · obtain ⟨ds, n, PP, R, s, h, _⟩ := h
    rw [s.length]
    exact hl _ _ _ _ h
  · obtain ⟨g, hp, q⟩ := body f cdv A outer s H E hr hG
    obtain ⟨ds, n, PP, R, se, h, kQ, kE⟩ := h
    exact ⟨_, hp, ends_of se (q ds n PP R h).2 kQ (.zero kE.tab)⟩
/-- a def that may let errors out -/
theorem dat_okX (F : Has K mg x st) (hb : ∀ f fd, L2.Fun K x x st f fd → L2.Binds K fd ps []) (S : FnScope N ps (defScope st))
    (body : ∀ (f : Addr) (cdv : Value) (A : Around) (outer : List Env) (s : Shared) (H : Hp) (E : XK), Room k (A.deeper (envOfC x (defScope st) s.heap.objs.size f cdv)) → (G = true → A.guards = some []) →
      ∃ g, PSs (cxOf (L2.CX P w) P w K mg base N x (defScope st) f cdv A outer s H E) (defBody st) (LS K TT E g) ∧ ∀ ds n PP R, sp ds n PP R → ds.length = ps.length ∧ g { nx := fun _ m => PP .non m, rt := PP, ex := R } (dstart N ds) n)
    (hl : ∀ ds n PP R, sp ds n PP R → ds.length = ps.length) : Df P w K mg base G (k + 1) x (LSp K TT sp) := by
  obtain ⟨f, fd, F, hm⟩ := F.ex
  refine df_okX F hm (hb f fd F) S (fun vs H Q E h => ?_) (fun cdv A outer s H vs Q E hr hG h => ?_)
  · obtain ⟨ds, n, PP, R, s, h, _⟩ := h
    rw [s.length]
    exact hl _ _ _ _ h
  · obtain ⟨g, hp, q⟩ := body f cdv A outer s H E hr hG
    obtain ⟨ds, n, PP, R, se, h, kQ, kE⟩ := h
    exact ⟨_, hp, ends_of se (q ds n PP R h).2 kQ kE⟩
end
end Aim

namespace Aim
open PySem PySem.Spec PyProof.Rows L2
open LamX (TabB Tabs CodeO)
/-! ### plain data -/
mutual
def py : Dat → PyData
  | .non => .none | .bl b => .bool b | .int i => .int i | .str x => .str x
  | .tup xs => .tuple (pys xs) | .lst xs => .list (pys xs)
  | .byt _ => .none | .ty _ => .none | .ref _ => .none | .pot => .none | .dct _ _ => .none | .obj _ _ _ => .none | .exc _ _ => .none | .scr _ => .none
def pys : List Dat → List PyData
  | [] => []
  | x :: xs => py x :: pys xs
end
mutual
def plain : Dat → Bool
  | .non => true | .bl _ => true | .int _ => true | .str _ => true
  | .tup xs => plains xs | .lst xs => plains xs
  | .byt _ => false | .ty _ => false | .ref _ => false | .pot => false | .dct _ _ => false | .obj _ _ _ => false | .exc _ _ => false | .scr _ => false
def plains : List Dat → Bool
  | [] => true
  | x :: xs => plain x && plains xs
end
/-- data that == takes -/
def cmpOk (d : Dat) : Prop := plain d = true ∧ (py d).depth ≤ 60
/-- d == e -/
def eqD (d e : Dat) : Bool := PyData.eqv (py d) (py e)
theorem pys_len : ∀ ds : List Dat, (pys ds).length = ds.length
  | [] => rfl
  | _ :: r => congrArg (· + 1) (pys_len r)
section
variable {K : PySem.W.Frag} {TT : List (Addr × Str)} {E : XK} {X : Cx} {n : Nat} {H H' : Hp}
mutual
theorem Sees.dd : ∀ {v : V} {d : Dat}, Sees K n H v d → plain d = true → DD K H v (py d)
  | _, _, .non => fun _ => .non
  | _, _, .bl b => fun _ => .bl b
  | _, _, .int i => fun _ => .int i
  | _, _, .str x l => fun _ => .str x
  | _, _, .tup h l s => fun p => .tup h (SeesL.dd s p)
  | _, _, .lst h l s => fun p => .lst (.of h) (SeesL.dd s p)
  | _, _, .byt _ _ => fun p => nomatch p
  | _, _, .ty _ => fun p => nomatch p
  | _, _, .ref _ => fun p => nomatch p
  | _, _, .pot _ _ => fun p => nomatch p
  | _, _, .dct _ _ _ => fun p => nomatch p
  | _, _, .obj _ _ _ => fun p => nomatch p
  | _, _, .exc _ _ _ => fun p => nomatch p
  | _, _, .scr _ => fun p => nomatch p
theorem SeesL.dd : ∀ {vs : List V} {ds : List Dat}, SeesL K n H vs ds → plains ds = true → DDs K H vs (pys ds)
  | _, _, .nil => fun _ => .nil
  | _, _, .cons h r => fun p => .cons (Sees.dd h (Bool.and_eq_true_iff.mp p).1) (SeesL.dd r (Bool.and_eq_true_iff.mp p).2)
end
mutual
theorem Sees.lay : ∀ {v : V} {d : Dat}, Sees K n H v d → plain d = true → PyData.canLay0 (py d) = true
  | _, _, .non => fun _ => rfl
  | _, _, .bl b => fun _ => rfl
  | _, _, .int i => fun _ => rfl
  | _, _, .str x l => fun _ => l.2
  | _, _, .tup h l s => fun p => SeesL.lay s p
  | _, _, .lst h l s => fun p => SeesL.lay s p
  | _, _, .byt _ _ => fun p => nomatch p
  | _, _, .ty _ => fun p => nomatch p
  | _, _, .ref _ => fun p => nomatch p
  | _, _, .pot _ _ => fun p => nomatch p
  | _, _, .dct _ _ _ => fun p => nomatch p
  | _, _, .obj _ _ _ => fun p => nomatch p
  | _, _, .exc _ _ _ => fun p => nomatch p
  | _, _, .scr _ => fun p => nomatch p
theorem SeesL.lay : ∀ {vs : List V} {ds : List Dat}, SeesL K n H vs ds → plains ds = true → PyData.canLayAll0 (pys ds) = true
  | _, _, .nil => fun _ => rfl
  | _, _, .cons h r => fun p => Bool.and_eq_true_iff.mpr ⟨Sees.lay h (Bool.and_eq_true_iff.mp p).1, SeesL.lay r (Bool.and_eq_true_iff.mp p).2⟩
end
theorem Sees.shaped {v : V} {d : Dat} (h : Sees K n H v d) (c : cmpOk d) : SeqAt.shaped (py d) = true := Bool.and_eq_true_iff.mpr ⟨h.lay c.1, decide_eq_true (Nat.le_trans c.2 (by decide))⟩
mutual
theorem Sees.dp : ∀ {v : V} {d : Dat}, Sees K n H v d → plain d = true → Dp K H v (py d)
  | _, _, .non => fun _ => .non
  | _, _, .bl b => fun _ => .bl b
  | _, _, .int i => fun _ => .int i
  | _, _, .str x l => fun _ => .str x
  | _, _, .tup h l s => fun p => .tup h (SeesL.dp s p)
  | _, _, .lst h l s => fun p => .lst (.of h) (SeesL.dp s p)
  | _, _, .byt _ _ => fun p => nomatch p
  | _, _, .ty _ => fun p => nomatch p
  | _, _, .ref _ => fun p => nomatch p
  | _, _, .pot _ _ => fun p => nomatch p
  | _, _, .dct _ _ _ => fun p => nomatch p
  | _, _, .obj _ _ _ => fun p => nomatch p
  | _, _, .exc _ _ _ => fun p => nomatch p
  | _, _, .scr _ => fun p => nomatch p
theorem SeesL.dp : ∀ {vs : List V} {ds : List Dat}, SeesL K n H vs ds → plains ds = true → DpAll K H vs (pys ds)
  | _, _, .nil => fun _ => .nil
  | _, _, .cons h r => fun p => .cons (Sees.dp h (Bool.and_eq_true_iff.mp p).1) (SeesL.dp r (Bool.and_eq_true_iff.mp p).2)
end
/-! ### ==, !=, in -/
def gEq : G2 := fun d e P => (cmpOk d ∧ cmpOk e) ∧ P (.bl (eqD d e))
def gNe : G2 := fun d e P => (cmpOk d ∧ cmpOk e) ∧ P (.bl (!eqD d e))
theorem od_eq : OpD K (rEqDD K) gEq := fun n x y d e H Q P g sx sy k => ⟨_, _, sx.dd g.1.1.1, sy.dd g.1.2.1, sx.shaped g.1.1, sy.shaped g.1.2, k _ _ H g.2 (.refl _) (.bl _)⟩
theorem od_ne : OpD K (rNeDD K) gNe := fun n x y d e H Q P g sx sy k => ⟨_, _, sx.dd g.1.1.1, sy.dd g.1.2.1, sx.shaped g.1.1, sy.shaped g.1.2, k _ _ H g.2 (.refl _) (.bl _)⟩
/-! ### numbers -/
def gII (f : Int → Int → Dat) : G2
  | .int i, .int j, P => P (f i j)
  | _, _, _ => False
def gIC (C : Int → Int → Prop) (f : Int → Int → Dat) : G2
  | .int i, .int j, P => C i j ∧ P (f i j)
  | _, _, _ => False
theorem gII_of {f : Int → Int → Dat} {d e : Dat} {P : Dat → Prop} (h : gII f d e P) : ∃ i j, d = .int i ∧ e = .int j ∧ P (f i j) := by
  unfold gII at h
  split at h
  · exact ⟨_, _, rfl, rfl, h⟩
  · exact h.elim
theorem gIC_of {C : Int → Int → Prop} {f : Int → Int → Dat} {d e : Dat} {P : Dat → Prop} (h : gIC C f d e P) : ∃ i j, d = .int i ∧ e = .int j ∧ C i j ∧ P (f i j) := by
  unfold gIC at h
  split at h
  · exact ⟨_, _, rfl, rfl, h.1, h.2⟩
  · exact h.elim
theorem od_II (f : Int → Int → Int) : OpD K (rI0 fun i j => .int (f i j)) (gII fun i j => .int (f i j)) := fun n x y d e H Q P g sx sy k => by
  obtain ⟨i, j, rfl, rfl, p⟩ := gII_of g
  exact ⟨i, j, sx.int_iff, sy.int_iff, k _ _ H p (.refl _) (.int _)⟩
theorem od_IB (f : Int → Int → Bool) : OpD K (rI0 fun i j => .bl (f i j)) (gII fun i j => .bl (f i j)) := fun n x y d e H Q P g sx sy k => by
  obtain ⟨i, j, rfl, rfl, p⟩ := gII_of g
  exact ⟨i, j, sx.int_iff, sy.int_iff, k _ _ H p (.refl _) (.bl _)⟩
theorem od_IC {C : Int → Int → Prop} (f : Int → Int → Int) : OpD K (rI C fun i j => .int (f i j)) (gIC C fun i j => .int (f i j)) := fun n x y d e H Q P g sx sy k => by
  obtain ⟨i, j, rfl, rfl, c, p⟩ := gIC_of g
  exact ⟨i, j, sx.int_iff, sy.int_iff, c, k _ _ H p (.refl _) (.int _)⟩
/-- i * j, one of them small, or both not too great -/
def CMulA (i j : Int) : Prop := CMul i j ∨ CMulW i j
def rMulA : R2 := fun x y H Q => rI CMul (fun i j => .int (i * j)) x y H Q ∨ rI CMulW (fun i j => .int (i * j)) x y H Q
theorem op_mulA : OpR X (binaryOp .Mult) rMulA := op_mul.or op_mulW
theorem od_mulA : OpD K rMulA (gIC CMulA fun i j => .int (i * j)) := fun n x y d e H Q P g sx sy k => by
  obtain ⟨i, j, rfl, rfl, c, p⟩ := gIC_of g
  rcases c with c | c
  · exact .inl ⟨i, j, sx.int_iff, sy.int_iff, c, k _ _ H p (.refl _) (.int _)⟩
  · exact .inr ⟨i, j, sx.int_iff, sy.int_iff, c, k _ _ H p (.refl _) (.int _)⟩
/-- -x -/
def gNeg : Dat → (Dat → Prop) → Prop
  | .int i, P => P (.int (-i))
  | _, _ => False
theorem de_neg {a : Expr} {f : DE} {pos : Pos} (h : PE X a (LE K TT E f)) : PE X (.UnaryOp .USub a pos) (LE K TT E (dUn gNeg f)) := (pe_un un_neg h).imp fun σ H Q ⟨ρ, n, P, R, r, q, k, x⟩ => ⟨ρ, n, _, R, r, q, fun d m v H1 z e s => by
  unfold gNeg at z
  split at z
  · exact ⟨_, s.int_iff, k _ m _ H1 z e (.int _)⟩
  · exact z.elim, x⟩
/-! ### + of numbers, texts, tuples, lists -/
theorem strB_append {x y : Str} (hx : StrB x) (hy : StrB y) (l : x.length + y.length ≤ sizeLine) : StrB (x ++ y) := by
  refine ⟨?_, ?_⟩
  · show (x.cps ++ y.cps).size ≤ sizeLine
    rw [Array.size_append]
    exact l
  · show (x.cps ++ y.cps).all _ = true
    rw [Array.all_append, hx.2, hy.2]
    rfl
def gAdd : G2
  | .int i, .int j, P => P (.int (i + j))
  | .str x, .str y, P => x.length + y.length ≤ sizeLine ∧ P (.str (x ++ y))
  | .tup xs, .tup ys, P => xs.length + ys.length ≤ sizeLine ∧ P (.tup (xs ++ ys))
  | .lst xs, .lst ys, P => xs.length + ys.length ≤ sizeLine ∧ P (.lst (xs ++ ys))
  | _, _, _ => False
def rAddA (K : PySem.W.Frag) : R2 := fun x y H Q => rI0 (fun i j => .int (i + j)) x y H Q ∨ (∃ i j, x = .str i ∧ y = .str j ∧ i.length + j.length ≤ sizeLine ∧ Q (.str (i ++ j)) H) ∨ rCatA K x y H Q ∨ rCat x y H Q
theorem op_addAny : OpR X (binaryOp .Add) (rAddA X.K) := op_add.or (op_add_str.or (op_catA.or op_cat))
theorem od_add : OpD K (rAddA K) gAdd := fun n x y d e H Q P g sx sy k => by
  unfold gAdd at g
  split at g
  · exact .inl ⟨_, _, sx.int_iff, sy.int_iff, k _ _ H g (.refl _) (.int _)⟩
  · obtain ⟨rfl, hx⟩ := sx.str_iff
    obtain ⟨rfl, hy⟩ := sy.str_iff
    exact .inr (.inl ⟨_, _, rfl, rfl, g.1, k _ _ H g.2 (.refl _) (.str _ (strB_append hx hy g.1))⟩)
  · obtain ⟨a, xs, rfl, h1, l1, s1⟩ := sx.tup_iff
    obtain ⟨b, ys, rfl, h2, l2, s2⟩ := sy.tup_iff
    have hz : xs.length + ys.length ≤ sizeLine := by rw [s1.length, s2.length]; exact g.1
    refine .inr (.inr (.inl ⟨a, b, xs, ys, rfl, rfl, h1, h2, hz, fun e1 => ?_, fun _ e2 => ?_, fun _ _ p hp => ?_⟩))
    · subst e1
      cases s1
      exact k _ _ H g.2 (.refl _) (.tup h2 l2 s2)
    · subst e2
      cases s2
      refine k _ _ H g.2 (.refl _) ?_
      rw [List.append_nil]
      exact .tup h1 l1 s1
    · exact k _ _ _ g.2 (.new hp) (.newT hp (by simpa using hz) (s1.append s2))
  · obtain ⟨a, xs, rfl, h1, l1, s1⟩ := sx.lst_at
    obtain ⟨b, ys, rfl, h2, l2, s2⟩ := sy.lst_at
    have hz : xs.length + ys.length ≤ sizeLine := by rw [s1.length, s2.length]; exact g.1
    exact .inr (.inr (.inr ⟨a, b, xs, ys, rfl, rfl, h1, h2, hz, fun p hp => k _ _ _ g.2 (.new hp) (.newL hp (by simpa using hz) (s1.append s2))⟩))
  · exact g.elim
/-! ### in -/
def gIn : G2
  | d, .lst ys, P => (cmpOk d ∧ cmpOk (.lst ys)) ∧ P (.bl (ys.any fun y => eqD y d))
  | _, _, _ => False
def gNotIn : G2
  | d, .lst ys, P => (cmpOk d ∧ cmpOk (.lst ys)) ∧ P (.bl (!ys.any fun y => eqD y d))
  | _, _, _ => False
theorem any_pys (ds : List Dat) (d : Dat) : ((pys ds).any fun z => PyData.eqv z (py d)) = ds.any fun y => eqD y d := by
  induction ds with
  | nil => rfl
  | cons x r ih =>
    show (PyData.eqv (py x) (py d) || (pys r).any _) = _
    rw [ih]
    rfl
theorem od_inL : OpD K (rInD K) gIn := fun n x y d e H Q P g sx sy k => by
  unfold gIn at g
  split at g
  · exact ⟨py _, pys _, sx.dp g.1.1.1, sy.dp g.1.2.1, sx.shaped g.1.1, sy.shaped g.1.2, by rw [any_pys]; exact k _ _ H g.2 (.refl _) (.bl _)⟩
  · exact g.elim
theorem od_notInL : OpD K (rNotInD K) gNotIn := fun n x y d e H Q P g sx sy k => by
  unfold gNotIn at g
  split at g
  · exact ⟨py _, pys _, sx.dp g.1.1.1, sy.dp g.1.2.1, sx.shaped g.1.1, sy.shaped g.1.2, by rw [any_pys]; exact k _ _ H g.2 (.refl _) (.bl _)⟩
  · exact g.elim
/-- flat data -/
def flatK : Dat → Bool
  | .non => true | .bl _ => true | .int _ => true | .str _ => true
  | _ => false
def vOf : Dat → V
  | .non => .non | .bl b => .bl b | .int i => .int i | .str x => .str x
  | _ => .non
theorem Sees.flat {v : V} {d : Dat} (h : Sees K n H v d) (f : flatK d = true) : v = vOf d := by
  cases h <;> first | rfl | cases f
theorem SeesL.flat : ∀ {vs : List V} {ds : List Dat}, SeesL K n H vs ds → ds.all flatK = true → vs = ds.map vOf
  | _, _, .nil => fun _ => rfl
  | _, _, .cons h r => fun p => by
    rw [List.all_cons, Bool.and_eq_true] at p
    rw [h.flat p.1, r.flat p.2]
    rfl
theorem flat_vOf {d : Dat} (f : flatK d = true) : flatV (vOf d) = true := by
  cases d <;> first | rfl | cases f
/-- equal flat data -/
def eqF (d e : Dat) : Bool := eqV (vOf d) (vOf e)
/-- in a tuple of flat things -/
def gInT : G2
  | d, .tup ys, P => (flatK d = true ∧ ys.all flatK = true) ∧ P (.bl (ys.any fun y => eqF y d))
  | _, _, _ => False
def gNotInT : G2
  | d, .tup ys, P => (flatK d = true ∧ ys.all flatK = true) ∧ P (.bl (!ys.any fun y => eqF y d))
  | _, _, _ => False
theorem inV_map (d : Dat) (ys : List Dat) : inV (vOf d) (ys.map vOf) = ys.any fun y => eqF y d := by
  unfold inV
  rw [List.any_map]
  rfl
theorem od_inT : OpD K (rIn K false) gInT := fun n x y d e H Q P g sx sy k => by
  unfold gInT at g
  split at g
  · obtain ⟨a, xs, rfl, h1, l1, s1⟩ := sy.tup_iff
    rw [sx.flat g.1.1]
    rw [s1.flat g.1.2] at h1
    exact ⟨a, _, rfl, .inr h1, flat_vOf g.1.1, List.all_eq_true.mpr fun z hz => by
      obtain ⟨w, hw, e⟩ := List.mem_map.mp hz
      rw [← e]
      exact flat_vOf (List.all_eq_true.mp g.1.2 w hw), by
      rw [inV_map]
      exact k _ _ H g.2 (.refl _) (.bl _)⟩
  · exact g.elim
theorem od_notInT : OpD K (rIn K true) gNotInT := fun n x y d e H Q P g sx sy k => by
  unfold gNotInT at g
  split at g
  · obtain ⟨a, xs, rfl, h1, l1, s1⟩ := sy.tup_iff
    rw [sx.flat g.1.1]
    rw [s1.flat g.1.2] at h1
    exact ⟨a, _, rfl, .inr h1, flat_vOf g.1.1, List.all_eq_true.mpr fun z hz => by
      obtain ⟨w, hw, e⟩ := List.mem_map.mp hz
      rw [← e]
      exact flat_vOf (List.all_eq_true.mp g.1.2 w hw), by
      rw [inV_map]
      exact k _ _ H g.2 (.refl _) (.bl _)⟩
  · exact g.elim
/-- a sign in a text -/
def gInS : G2
  | .str ⟨⟨[c]⟩⟩, .str z, P => P (.bl (decide (c ∈ z.cps.toList)))
  | _, _, _ => False
theorem od_inS : OpD K (fun x y H Q => ∃ (c : Nat) (z : Str), x = .str ⟨#[c]⟩ ∧ y = .str z ∧ Q (.bl (decide (c ∈ z.cps.toList))) H) gInS := fun n x y d e H Q P g sx sy k => by
  unfold gInS at g
  split at g
  · exact ⟨_, _, sx.str_iff.1, sy.str_iff.1, k _ _ H g (.refl _) (.bl _)⟩
  · exact g.elim
def rInAny (K : PySem.W.Frag) : R2 := fun x y H Q => rInD K x y H Q ∨ rIn K false x y H Q ∨ ∃ (c : Nat) (z : Str), x = .str ⟨#[c]⟩ ∧ y = .str z ∧ Q (.bl (decide (c ∈ z.cps.toList))) H
theorem op_inAny (hu : X.A.units + 65 < cLine) : OpR X (compareOp .In) (rInAny X.K) := (op_inD hu).or (op_in_seq.or op_in_sign)
def gInAny : G2 := fun d e P => gIn d e P ∨ gInT d e P ∨ gInS d e P
theorem od_inAny : OpD K (rInAny K) gInAny := fun n x y d e H Q P g sx sy k => by
  rcases g with g | g | g
  · exact .inl (od_inL n x y d e H Q P g sx sy k)
  · exact .inr (.inl (od_inT n x y d e H Q P g sx sy k))
  · exact .inr (.inr (od_inS n x y d e H Q P g sx sy k))
def rNotInAny (K : PySem.W.Frag) : R2 := fun x y H Q => rNotInD K x y H Q ∨ rIn K true x y H Q
theorem op_notInAny (hu : X.A.units + 65 < cLine) : OpR X (compareOp .NotIn) (rNotInAny X.K) := (op_notInD hu).or op_notIn_seq
def gNotInAny : G2 := fun d e P => gNotIn d e P ∨ gNotInT d e P
theorem od_notInAny : OpD K (rNotInAny K) gNotInAny := fun n x y d e H Q P g sx sy k => by
  rcases g with g | g
  · exact .inl (od_notInL n x y d e H Q P g sx sy k)
  · exact .inr (od_notInT n x y d e H Q P g sx sy k)
/-! ### built-in functions -/
def lenD : Dat → (Nat → Prop) → Prop
  | .str x, P => P x.length
  | .byt x, P => P x.size
  | .tup xs, P => P xs.length
  | .lst xs, P => P xs.length
  | .scr ns, P => P ns.length
  | _, _ => False
def gLen : GA
  | [d], P => lenD d fun i => P (.int (i : Nat))
  | _, _ => False
theorem SeesL.one {vs : List V} {d : Dat} (s : SeesL K n H vs [d]) : ∃ v, vs = [v] ∧ Sees K n H v d := by
  cases s with
  | cons h r => cases r; exact ⟨_, rfl, h⟩
theorem SeesL.two {vs : List V} {d e : Dat} (s : SeesL K n H vs [d, e]) : ∃ v u, vs = [v, u] ∧ Sees K n H v d ∧ Sees K n H u e := by
  cases s with
  | cons h r =>
    obtain ⟨u, rfl, h2⟩ := r.one
    exact ⟨_, _, rfl, h, h2⟩
theorem cd_len : CallD K (fun xs H Q => ∃ x n, xs = [x] ∧ LenV K x H n ∧ Q (.int n) H) gLen := fun n vs ds H Q P g s k => by
  unfold gLen at g
  split at g
  · obtain ⟨v, rfl, w⟩ := s.one
    unfold lenD at g
    split at g
    · obtain ⟨rfl, h⟩ := w.str_iff
      exact ⟨_, _, rfl, ⟨h.1, rfl⟩, k _ _ H g (.refl _) (.int _)⟩
    · obtain ⟨rfl, h⟩ := w.byt_iff
      exact ⟨_, _, rfl, ⟨h, rfl⟩, k _ _ H g (.refl _) (.int _)⟩
    · obtain ⟨a, xs, rfl, h1, l1, s1⟩ := w.tup_iff
      exact ⟨_, _, rfl, .inr ⟨xs, h1, rfl⟩, k _ _ H g (.refl _) (by rw [s1.length]; exact .int _)⟩
    · obtain ⟨a, xs, rfl, h1, l1, s1⟩ := w.lst_iff
      exact ⟨_, _, rfl, .inl ⟨xs, h1, rfl⟩, k _ _ H g (.refl _) (by rw [s1.length]; exact .int _)⟩
    · cases w with
      | scr h1 => exact ⟨_, _, rfl, .inl ⟨_, h1, rfl⟩, k _ _ H g (.refl _) (by rw [List.length_map]; exact .int _)⟩
    · exact g.elim
  · exact g.elim
/-- all, any of a list of truths -/
def bools : List Dat → (List Bool → Prop) → Prop
  | [], P => P []
  | .bl b :: r, P => bools r fun bs => P (b :: bs)
  | _, _ => False
theorem bools_of : ∀ {ds : List Dat} {P : List Bool → Prop}, bools ds P → ∃ bs, ds = bs.map Dat.bl ∧ P bs
  | [], _, h => ⟨[], rfl, h⟩
  | .bl b :: r, _, h => by
    obtain ⟨bs, rfl, p⟩ := bools_of (ds := r) h
    exact ⟨b :: bs, rfl, p⟩
theorem bools_map (bs : List Bool) {P : List Bool → Prop} (h : P bs) : bools (bs.map Dat.bl) P := by
  induction bs generalizing P with
  | nil => exact h
  | cons b r ih => exact ih h
theorem SeesL.bls : ∀ {vs : List V} {bs : List Bool}, SeesL K n H vs (bs.map Dat.bl) → vs = bs.map V.bl := fun {vs bs} s => by
  induction bs generalizing vs with
  | nil => cases s; rfl
  | cons b r ih =>
    cases s with
    | cons h t => rw [h.bl_iff, ih t]; rfl
def gAll : GA
  | [.lst ds], P => bools ds fun bs => P (.bl (bs.all id))
  | _, _ => False
def gAny : GA
  | [.lst ds], P => bools ds fun bs => P (.bl (bs.any id))
  | _, _ => False
theorem cd_all : CallD K (rAll K) gAll := fun n vs ds H Q P g s k => by
  unfold gAll at g
  split at g
  · obtain ⟨v, rfl, w⟩ := s.one
    obtain ⟨bs, rfl, p⟩ := bools_of g
    obtain ⟨a, xs, rfl, h1, l1, s1⟩ := w.lst_iff
    rw [s1.bls] at h1
    exact ⟨a, bs, rfl, h1, k _ _ H p (.refl _) (.bl _)⟩
  · exact g.elim
theorem cd_any : CallD K (L2.rAny K) gAny := fun n vs ds H Q P g s k => by
  unfold gAny at g
  split at g
  · obtain ⟨v, rfl, w⟩ := s.one
    obtain ⟨bs, rfl, p⟩ := bools_of g
    obtain ⟨a, xs, rfl, h1, l1, s1⟩ := w.lst_iff
    rw [s1.bls] at h1
    exact ⟨a, bs, rfl, h1, k _ _ H p (.refl _) (.bl _)⟩
  · exact g.elim
end
end Aim

namespace Aim
open PySem PySem.Spec PyProof.Rows L2
open LamX (TabB Tabs CodeO)
section
variable {K : PySem.W.Frag} {TT : List (Addr × Str)} {E : XK} {X : Cx} {n : Nat} {H H' : Hp}
/-! ### subscripts -/
theorem atI_sees {vs : List V} {ds : List Dat} {i : Int} {d : Dat} (s : SeesL K n H vs ds) (h : atI ds i = some d) : ∃ v, atI vs i = some v ∧ Sees K n H v d := by
  unfold atI at h ⊢
  rw [s.length]
  cases e : ixN ds.length i with
  | none => rw [e] at h; cases h
  | some j =>
    rw [e] at h
    exact s.getD h
def optD {α : Type} : Option α → (α → Prop) → Prop
  | some d, P => P d
  | none, _ => False
theorem optD_of {α : Type} {o : Option α} {P : α → Prop} (h : optD o P) : ∃ d, o = some d ∧ P d := by
  cases o with
  | some d => exact ⟨d, rfl, h⟩
  | none => exact h.elim
def gIx : G2
  | .lst ds, .int i, P => optD (atI ds i) P
  | .tup ds, .int i, P => optD (atI ds i) P
  | .str z, .int i, P => optD (atI z.cps.toList i) fun c => P (.str ⟨#[c]⟩)
  | .scr ns, .int i, P => optD (atI ns i) fun z => P (.int z)
  | _, _, _ => False
theorem strB_one {z : Str} (h : StrB z) {c : Nat} (m : c ∈ z.cps.toList) : StrB ⟨#[c]⟩ := by
  refine ⟨by show 1 ≤ sizeLine; decide, ?_⟩
  have q := h.2
  rw [Array.all_eq_true'] at q
  simpa using q c (by simpa using m)
theorem atI_mem {α : Type} {xs : List α} {i : Int} {c : α} (h : atI xs i = some c) : c ∈ xs := by
  unfold atI at h
  cases e : ixN xs.length i with
  | none => rw [e] at h; cases h
  | some j =>
    rw [e] at h
    exact List.mem_of_getElem? h
theorem atI_map {ns : List Int} {i c : Int} (h : atI ns i = some c) : atI (ns.map V.int) i = some (.int c) := by
  unfold atI at h ⊢
  rw [List.length_map]
  cases e : ixN ns.length i with
  | none => rw [e] at h; cases h
  | some j =>
    rw [e] at h
    show (ns.map V.int)[j]? = _
    rw [List.getElem?_map]
    have h : ns[j]? = some c := h
    rw [h]
    rfl
theorem od_ix : OpD K (rIx K) gIx := fun n x y d e H Q P g sx sy k => by
  unfold gIx at g
  split at g
  · obtain ⟨z, e1, p⟩ := optD_of g
    obtain ⟨a, xs, rfl, h1, l1, s1⟩ := sx.lst_iff
    obtain ⟨v, e2, s2⟩ := atI_sees s1 e1
    exact .inl ⟨a, xs, _, v, rfl, sy.int_iff, h1, e2, k _ v H p (.refl _) s2⟩
  · obtain ⟨z, e1, p⟩ := optD_of g
    obtain ⟨a, xs, rfl, h1, l1, s1⟩ := sx.tup_iff
    obtain ⟨v, e2, s2⟩ := atI_sees s1 e1
    exact .inr (.inl ⟨a, xs, _, v, rfl, sy.int_iff, h1, e2, k _ v H p (.refl _) s2⟩)
  · obtain ⟨c, e1, p⟩ := optD_of g
    obtain ⟨rfl, hz⟩ := sx.str_iff
    exact .inr (.inr ⟨_, _, c, rfl, sy.int_iff, hz.1, e1, k _ _ H p (.refl _) (.str _ (strB_one hz (atI_mem e1)))⟩)
  · obtain ⟨c, e1, p⟩ := optD_of g
    cases sx with
    | scr h1 => exact .inl ⟨_, _, _, .int c, rfl, sy.int_iff, h1, atI_map e1, k _ _ H p (.refl _) (.int _)⟩
  · exact g.elim
/-! ### slices -/
def cutD (xs : List Dat) (lo hi : Option Int) : List Dat := (xs.drop (HT.sIx xs.length 0 lo)).take (HT.sIx xs.length xs.length hi - HT.sIx xs.length 0 lo)
theorem cut_sees {vs : List V} {ds : List Dat} (s : SeesL K n H vs ds) (lo hi : Option Int) : SeesL K n H (cutV vs lo hi) (cutD ds lo hi) := by
  unfold cutV cutD
  rw [s.length]
  exact (s.drop _).take _
def gSl : GS
  | .lst ds, lo, hi, P => P (.lst (cutD ds lo hi))
  | .tup ds, lo, hi, P => P (.tup (cutD ds lo hi))
  | .str z, lo, hi, P => P (.str (cutS z lo hi))
  | _, _, _, _ => False
theorem cut_whole {α : Type} (xs : List α) (lo hi : Option Int) (h : HT.sIx xs.length 0 lo = 0 ∧ HT.sIx xs.length xs.length hi = xs.length) : (xs.drop (HT.sIx xs.length 0 lo)).take (HT.sIx xs.length xs.length hi - HT.sIx xs.length 0 lo) = xs := by
  rw [h.1, h.2]
  simp
theorem strB_cut {z : Str} (h : StrB z) (lo hi : Option Int) : StrB (cutS z lo hi) := by
  refine ⟨Nat.le_trans (cutS_length z lo hi) h.1, ?_⟩
  have q := h.2
  rw [Array.all_eq_true'] at q ⊢
  intro c hc
  refine q c ?_
  unfold cutS at hc
  simp only [List.mem_toArray] at hc
  have := List.mem_of_mem_drop (List.mem_of_mem_take hc)
  simpa using this
def rSlAny (K : PySem.W.Frag) : V → Option Int → Option Int → Hp → VK → Prop := fun x lo hi H Q => rSlL K x lo hi H Q ∨ rSlA K x lo hi H Q ∨ rSlS x lo hi H Q
theorem slOr {r r' : V → Option Int → Option Int → Hp → VK → Prop} (h : L2.SlR X r) (h' : L2.SlR X r') : L2.SlR X fun x lo hi H Q => r x lo hi H Q ∨ r' x lo hi H Q := by
  intro pins s σ H x v vl vu lo hi sl Q I rx hs pl pu q
  rcases q with q | q
  · exact h pins s σ H x v vl vu lo hi sl Q I rx hs pl pu q
  · exact h' pins s σ H x v vl vu lo hi sl Q I rx hs pl pu q
theorem sl_any : L2.SlR X (rSlAny X.K) := slOr sl_list (slOr sl_tupA sl_str)
theorem sd_any : SlD K (rSlAny K) gSl := fun n x d lo hi H Q P g sx k => by
  unfold gSl at g
  split at g
  · obtain ⟨a, xs, rfl, h1, l1, s1⟩ := sx.lst_iff
    exact .inl ⟨a, xs, rfl, h1, fun p hp => k _ _ _ g (.new hp) (.newL hp (Nat.le_trans (cutV_length xs lo hi) l1) (cut_sees s1 lo hi))⟩
  · obtain ⟨a, xs, rfl, h1, l1, s1⟩ := sx.tup_iff
    refine .inr (.inl ⟨a, xs, rfl, h1, fun w => ?_, fun _ p hp => k _ _ _ g (.new hp) (.newT hp (Nat.le_trans (cutV_length xs lo hi) l1) (cut_sees s1 lo hi))⟩)
    refine k _ _ H g (.refl _) ?_
    have e : cutD _ lo hi = _ := cut_whole _ lo hi (by rw [← s1.length]; exact w)
    rw [e]
    exact .tup h1 l1 s1
  · obtain ⟨rfl, hz⟩ := sx.str_iff
    exact .inr (.inr ⟨_, rfl, hz.1, k _ _ H g (.refl _) (.str _ (strB_cut hz lo hi))⟩)
  · exact g.elim
theorem de_sl {a : Expr} {lo hi : Option Expr} {fa : DE} {l u : DO} {p2 pos : Pos} (ha : PE X a (LE X.K TT E fa)) (hl : PO X lo (LO X.K TT E l)) (hu : PO X hi (LO X.K TT E u)) : PE X (.Subscript a (.Slice lo hi none p2) pos) (LE X.K TT E (dSl gSl fa l u)) := (pe_slice sl_any ha hl hu).imp fun _ _ _ h => h.sl sd_any
/-! ### conversions -/
def gInt : GA
  | [.int i], P => P (.int i)
  | [.bl b], P => P (.int (if b then 1 else 0))
  | [.str a], P => a.length ≤ 640 ∧ optD (PySem.intText? a) fun i => P (.int i)
  | _, _ => False
def rIntA : List V → Hp → VK → Prop := fun xs H Q => ((∃ i, xs = [.int i] ∧ Q (.int i) H) ∨ ∃ k, xs = [.bl k] ∧ Q (.int (if k then 1 else 0)) H) ∨ ∃ a n, xs = [.str a] ∧ PySem.intText? a = some n ∧ a.length ≤ 640 ∧ Q (.int n) H
theorem callOr {f : Value} {r r' : List V → Hp → VK → Prop} (h : CallR X f r) (h' : CallR X f r') : CallR X f fun xs H Q => r xs H Q ∨ r' xs H Q := by
  intro pins s σ H xs us Q I rx q
  rcases q with q | q
  · exact h pins s σ H xs us Q I rx q
  · exact h' pins s σ H xs us Q I rx q
theorem call_intA : CallR X (.type "int") rIntA := callOr call_int1 call_int_str
theorem cd_int : CallD K rIntA gInt := fun n vs ds H Q P g s k => by
  unfold gInt at g
  split at g
  · obtain ⟨v, rfl, w⟩ := s.one
    exact .inl (.inl ⟨_, by rw [w.int_iff], k _ _ H g (.refl _) (.int _)⟩)
  · obtain ⟨v, rfl, w⟩ := s.one
    exact .inl (.inr ⟨_, by rw [w.bl_iff], k _ _ H g (.refl _) (.int _)⟩)
  · obtain ⟨v, rfl, w⟩ := s.one
    obtain ⟨i, e, p⟩ := optD_of g.2
    exact .inr ⟨_, i, by rw [w.str_iff.1], e, g.1, k _ _ H p (.refl _) (.int _)⟩
  · exact g.elim
def gAbs : GA
  | [.int i], P => P (.int (if i < 0 then -i else i))
  | _, _ => False
theorem cd_abs : CallD K (fun xs H Q => ∃ i, xs = [.int i] ∧ Q (.int (if i < 0 then -i else i)) H) gAbs := fun n vs ds H Q P g s k => by
  unfold gAbs at g
  split at g
  · obtain ⟨v, rfl, w⟩ := s.one
    exact ⟨_, by rw [w.int_iff], k _ _ H g (.refl _) (.int _)⟩
  · exact g.elim
def g2I (f : Int → Int → Int) : GA
  | [.int i, .int j], P => P (.int (f i j))
  | _, _ => False
theorem cd_2I (f : Int → Int → Int) : CallD K (fun xs H Q => ∃ i j, xs = [.int i, .int j] ∧ Q (.int (f i j)) H) (g2I f) := fun n vs ds H Q P g s k => by
  unfold g2I at g
  split at g
  · obtain ⟨v, u, rfl, w1, w2⟩ := s.two
    exact ⟨_, _, by rw [w1.int_iff, w2.int_iff], k _ _ H g (.refl _) (.int _)⟩
  · exact g.elim
/-- str of a number (of a text: itself) -/
def gStr : GA
  | [.int i], P => i.natAbs.log2 < 1920 ∧ StrB (toString i : Str) ∧ P (.str (toString i))
  | _, _ => False
theorem cd_str : CallD K (fun xs H Q => ∃ i, xs = [.int i] ∧ i.natAbs.log2 < 1920 ∧ Q (.str (toString i)) H) gStr := fun n vs ds H Q P g s k => by
  unfold gStr at g
  split at g
  · obtain ⟨v, rfl, w⟩ := s.one
    exact ⟨_, by rw [w.int_iff], g.1, k _ _ H g.2.2 (.refl _) (.str _ g.2.1)⟩
  · exact g.elim
/-- list(..) of a list or a tuple: a new list -/
def gListF (f : DE) : DA := fun ρ n P R => f ρ n (fun d m => match d with
  | .lst ds => P ds m
  | .tup ds => P ds m
  | _ => False) R
theorem lf_list {f : DE} {σ : L2.St} {H : Hp} {Q : VK} (h : LF K TT E (gListF f) σ H Q) : tCB (fun xs H Q => ∃ p ys, xs = [.ref p] ∧ (SqL K H p ys ∨ SqT K H p ys) ∧ ∀ l, H l = none → Q (.ref l) (upd H l (.lst ys))) (tCons (LE K TT E f) tNil) σ H Q := by
  obtain ⟨ρ, n, P, R, r, q, k, x⟩ := h
  refine ⟨ρ, n, _, R, r, q, fun d m v H1 z e s => ?_, x⟩
  split at z
  · obtain ⟨a, xs, rfl, h1, l1, s1⟩ := s.lst_iff
    exact ⟨a, xs, rfl, .inl h1, fun l hl => lf_grow k z e hl l1 s1⟩
  · obtain ⟨a, xs, rfl, h1, l1, s1⟩ := s.tup_iff
    exact ⟨a, xs, rfl, .inr h1, fun l hl => lf_grow k z e hl l1 s1⟩
  · exact z.elim
/-- a display is a new list -/
def gDisp (fr : DA) : DA := fun ρ n P R => fr ρ n (fun ds m => ds.length ≤ sizeLine ∧ P ds m) R
theorem lf_disp {fr : DA} {σ : L2.St} {H : Hp} {Q : VK} (h : LF K TT E (gDisp fr) σ H Q) : tLst (LA K TT E fr) σ H Q := by
  obtain ⟨ρ, n, P, R, r, q, k, x⟩ := h
  exact ⟨ρ, n, _, R, r, q, fun ds m vs H1 z e s => ⟨by rw [s.length]; exact z.1, fun l hl => lf_grow k z.2 e hl (by rw [s.length]; exact z.1) s⟩, x⟩
/-- tuple(..) -/
def gTupOf : GA
  | [.lst ds], P => P (.tup ds)
  | [.tup ds], P => P (.tup ds)
  | _, _ => False
theorem cd_tup : CallD K (fun xs H Q => ∃ p ys, xs = [.ref p] ∧ ((SqL K H p ys ∧ ∀ l, H l = none → Q (.ref l) (upd H l (.tup ys))) ∨ (SqT K H p ys ∧ Q (.ref p) H))) gTupOf := fun n vs ds H Q P g s k => by
  unfold gTupOf at g
  split at g
  · obtain ⟨v, rfl, w⟩ := s.one
    obtain ⟨a, xs, rfl, h1, l1, s1⟩ := w.lst_iff
    exact ⟨a, xs, rfl, .inl ⟨h1, fun l hl => k _ _ _ g (.new hl) (.newT hl l1 s1)⟩⟩
  · obtain ⟨v, rfl, w⟩ := s.one
    obtain ⟨a, xs, rfl, h1, l1, s1⟩ := w.tup_iff
    exact ⟨a, xs, rfl, .inr ⟨h1, k _ _ H g (.refl _) (.tup h1 l1 s1)⟩⟩
  · exact g.elim
/-! ### methods of texts, of tuples -/
def isStr : Dat → Bool
  | .str _ => true
  | _ => false
theorem ty_str : TyD K "str" isStr := fun n x d H s e => by
  cases s <;> first | rfl | cases e
def txts : List Dat → (List Str → Prop) → Prop
  | [], P => P []
  | .str b :: r, P => txts r fun bs => P (b :: bs)
  | _, _ => False
theorem txts_of : ∀ {ds : List Dat} {P : List Str → Prop}, txts ds P → ∃ bs, ds = bs.map Dat.str ∧ P bs
  | [], _, h => ⟨[], rfl, h⟩
  | .str b :: r, _, h => by
    obtain ⟨bs, rfl, p⟩ := txts_of (ds := r) h
    exact ⟨b :: bs, rfl, p⟩
theorem txts_map (bs : List Str) {P : List Str → Prop} (h : P bs) : txts (bs.map Dat.str) P := by
  induction bs generalizing P with
  | nil => exact h
  | cons b r ih => exact ih h
theorem SeesL.txts : ∀ {vs : List V} {bs : List Str}, SeesL K n H vs (bs.map Dat.str) → vs = bs.map V.str ∧ ∀ b ∈ bs, StrB b := fun {vs bs} s => by
  induction bs generalizing vs with
  | nil => cases s; exact ⟨rfl, fun _ z => nomatch z⟩
  | cons b r ih =>
    cases s with
    | cons h t =>
      obtain ⟨e1, e2⟩ := ih t
      rw [h.str_iff.1, e1]
      refine ⟨rfl, fun c hc => ?_⟩
      rcases List.mem_cons.mp hc with z | z
      · rw [z]
        exact h.str_iff.2
      · exact e2 c z
theorem SeesL.ofStrs {bs : List Str} (h : ∀ b ∈ bs, StrB b) : SeesL K n H (bs.map V.str) (bs.map Dat.str) := by
  induction bs with
  | nil => exact .nil
  | cons b r ih => exact .cons (.str b (h b (by simp))) (ih fun c hc => h c (by simp [hc]))
/-- sep.join(texts) -/
def gJoin : GM
  | .str a, [.lst ds], P => txts ds fun bs => (bs.map (·.length)).sum + bs.length * a.length ≤ 16777216 ∧ StrB (Txt.join a bs) ∧ P (.str (Txt.join a bs))
  | .str a, [.tup ds], P => txts ds fun bs => (bs.map (·.length)).sum + bs.length * a.length ≤ 16777216 ∧ StrB (Txt.join a bs) ∧ P (.str (Txt.join a bs))
  | _, _, _ => False
theorem md_join : MethD K "str" (fun x xs H Q => ∃ a p, ∃ ys : List Str, x = .str a ∧ xs = [.ref p] ∧ (SqL K H p (ys.map V.str) ∨ SqT K H p (ys.map V.str)) ∧ (ys.map (·.length)).sum + ys.length * a.length ≤ 16777216 ∧ Q (.str (Txt.join a ys)) H) gJoin := fun n x d vs ds H Q P g sx s k => by
  unfold gJoin at g
  split at g
  · obtain ⟨v, rfl, w⟩ := s.one
    obtain ⟨bs, rfl, p⟩ := txts_of g
    obtain ⟨a, xs, rfl, h1, l1, s1⟩ := w.lst_iff
    rw [s1.txts.1] at h1
    exact ⟨_, a, bs, sx.str_iff.1, rfl, .inl h1, p.1, k _ _ H p.2.2 (.refl _) (.str _ p.2.1)⟩
  · obtain ⟨v, rfl, w⟩ := s.one
    obtain ⟨bs, rfl, p⟩ := txts_of g
    obtain ⟨a, xs, rfl, h1, l1, s1⟩ := w.tup_iff
    rw [s1.txts.1] at h1
    exact ⟨_, a, bs, sx.str_iff.1, rfl, .inr h1, p.1, k _ _ H p.2.2 (.refl _) (.str _ p.2.1)⟩
  · exact g.elim
/-- s.split(sep) -/
def gSplit : GM
  | .str a, [.str b], P => (b.length == 0) = false ∧ a.length + 2 ≤ sizeLine ∧ (Txt.split a b).length ≤ sizeLine ∧ (∀ z ∈ Txt.split a b, StrB z) ∧ P (.lst ((Txt.split a b).map Dat.str))
  | _, _, _ => False
theorem md_split : MethD K "str" (fun x xs H Q => ∃ a b, x = .str a ∧ xs = [.str b] ∧ (b.length == 0) = false ∧ a.length + 2 ≤ sizeLine ∧ rNewStrs (Txt.split a b) H Q) gSplit := fun n x d vs ds H Q P g sx s k => by
  unfold gSplit at g
  split at g
  · obtain ⟨v, rfl, w⟩ := s.one
    refine ⟨_, _, sx.str_iff.1, by rw [w.str_iff.1], g.1, g.2.1, fun p hp => k _ _ _ g.2.2.2.2 (.new hp) (.newL hp (by simpa using g.2.2.1) (SeesL.ofStrs g.2.2.2.1))⟩
  · exact g.elim
def gStarts : GM
  | .str a, [.str b], P => P (.bl (Txt.startswith a b))
  | _, _, _ => False
theorem md_starts : MethD K "str" (fun x xs H Q => ∃ a b, x = .str a ∧ xs = [.str b] ∧ Q (.bl (Txt.startswith a b)) H) gStarts := fun n x d vs ds H Q P g sx s k => by
  unfold gStarts at g
  split at g
  · obtain ⟨v, rfl, w⟩ := s.one
    exact ⟨_, _, sx.str_iff.1, by rw [w.str_iff.1], k _ _ H g (.refl _) (.bl _)⟩
  · exact g.elim
/-! ### isinstance of plain data -/
/-- the built-in type, where it is one -/
def tyK : Dat → Option String
  | .non => some "NoneType" | .bl _ => some "bool" | .int _ => some "int" | .str _ => some "str" | .byt _ => some "bytes"
  | .tup _ => some "tuple" | .lst _ => some "list" | .dct _ _ => some "dict"
  | _ => none
theorem Sees.tyx {v : V} {d : Dat} {t : String} (s : Sees K n H v d) (h : tyK d = some t) : TyX K H v (.type t) := by
  cases s with
  | non => cases h; exact .base .non
  | bl b => cases h; exact .base (.bl b)
  | int i => cases h; exact .base (.int i)
  | str x l => cases h; exact .base (.str x)
  | byt x l => cases h; exact .byt x
  | tup h1 l s1 => cases h; exact tyX_sqT h1
  | lst h1 l s1 => cases h; exact .base (.lst h1)
  | dct h1 l s1 =>
    cases h
    rcases h1 with h1 | ⟨o, h1⟩
    · exact .base (.dK h1)
    · exact .fDict h1
  | _ => cases h
def isT (T : String) (t : String) : Bool := t == T || (T == "int" && t == "bool")
theorem kit_T {T t : String} (hT : T = "int" ∨ T = "bool" ∨ T = "str" ∨ T = "tuple" ∨ T = "list" ∨ T = "bytes" ∨ T = "dict") (ht : t = "NoneType" ∨ t = "bool" ∨ t = "int" ∨ t = "str" ∨ t = "bytes" ∨ t = "tuple" ∨ t = "list" ∨ t = "dict") : PySem.W.kitOne K (.type t) (.type T) = some (isT T t) := by
  rcases hT with h | h | h | h | h | h | h <;> subst h <;> rcases ht with h | h | h | h | h | h | h | h <;> subst h <;> exact kit_ty (by decide +kernel)
theorem tyK_mem {d : Dat} {t : String} (h : tyK d = some t) : t = "NoneType" ∨ t = "bool" ∨ t = "int" ∨ t = "str" ∨ t = "bytes" ∨ t = "tuple" ∨ t = "list" ∨ t = "dict" := by
  cases d <;> simp [tyK] at h <;> subst h <;> simp
def gIsT (T : String) : GA
  | [d, .ty T'], P => T' = T ∧ optD (tyK d) fun t => P (.bl (isT T t))
  | _, _ => False
theorem cd_isT {T : String} (hT : T = "int" ∨ T = "bool" ∨ T = "str" ∨ T = "tuple" ∨ T = "list" ∨ T = "bytes" ∨ T = "dict") : CallD K (rIsi K) (gIsT T) := fun n vs ds H Q P g s k => by
  unfold gIsT at g
  split at g
  · obtain ⟨v, u, rfl, w1, w2⟩ := s.two
    obtain ⟨rfl, g⟩ := g
    obtain ⟨t, e, p⟩ := optD_of g
    rw [w2.ty_iff]
    exact ⟨v, _, _, _, _, rfl, .ty _, w1.tyx e, kit_T hT (tyK_mem e), k _ _ H p (.refl _) (.bl _)⟩
  · exact g.elim
/-- isinstance(x, (tuple, list)) -/
def gTL : Dat → (Dat → Prop) → Prop := fun d P => optD (tyK d) fun t => P (.bl (t == "tuple" || t == "list"))
theorem de_isTL {a : Expr} {f : DE} {x1 : Nat} {p1 p2 p3 p4 pos : Pos} (h : PE X (.Call (.Name "isinstance" p1) [a, .Tuple [.Name "tuple" p2, .Name "list" p3] x1 p4] [] pos) (tCB (rIsiT X.K) (tCons (LE X.K TT E f) (tCons (tTup (tCons (tC (.ty "tuple")) (tCons (tC (.ty "list")) tNil))) tNil)))) :
    PE X (.Call (.Name "isinstance" p1) [a, .Tuple [.Name "tuple" p2, .Name "list" p3] x1 p4] [] pos) (LE X.K TT E (dUn gTL f)) := h.imp fun σ H Q ⟨ρ, n, P, R, r, q, k, x⟩ => by
  refine ⟨ρ, n, _, R, r, q, fun d m v H1 z e s => ⟨by show 2 ≤ sizeLine; decide, fun p hp => ?_⟩, x⟩
  obtain ⟨t, e1, z⟩ := optD_of z
  have g : Grow H1 (upd H1 p (.tup [.ty "tuple", .ty "list"])) := .new hp
  refine ⟨v, p, _, _, [.type "tuple", .type "list"], (t == "tuple" || t == "list"), rfl, upd_same, .cons (.ty _) (.cons (.ty _) .nil), (s.grow g).tyx e1, ?_, k _ m _ _ z (e.trans (.grow g)) (.bl _)⟩
  have ht := tyK_mem e1
  have e2 : isT "tuple" t = (t == "tuple") := by rcases ht with h | h | h | h | h | h | h | h <;> subst h <;> rfl
  have e3 : isT "list" t = (t == "list") := by rcases ht with h | h | h | h | h | h | h | h <;> subst h <;> rfl
  refine kitAny_cons (kit_T (T := "tuple") (by simp) ht) (fun w => ?_) fun w => by rw [← e2, w, Bool.true_or]
  refine kitAny_cons (kit_T (T := "list") (by simp) ht) (fun w2 => ?_) fun w2 => by rw [← e3, w2, Bool.or_true]
  rw [e2] at w
  rw [e3] at w2
  rw [w, w2]
  rfl
/-! ### errors -/
def dRaise (C : Addr) (f : DE) : DS := fun P ρ n => f ρ n (fun d m => P.ex C d m) P.ex
theorem ds_raise {C : Addr} {st : Stmt} {f : DE} (h : PS X st (fun _ σ H => tMkA C (LE K TT E f) σ H fun cls d H' => E cls d H')) : PS X st (LS K TT E (dRaise C f)) := h.imp fun D σ H ⟨ρ, n, P, r, q, k⟩ => ⟨ρ, n, _, P.ex, r, q, fun d m v H1 z e s dd hd => k.ex.ex C d m dd v _ z (e.toFra.trans (.grow (.new hd))) upd_same (s.grow (.new hd)), k.ex.toE⟩
/-- the value of a caught error -/
def gVal (C : Addr) : Dat → (Dat → Prop) → Prop
  | .exc C' d, P => C' = C ∧ P d
  | _, _ => False
theorem de_val {C D f0 : Addr} {e : Expr} {f : DE} (c : AimC X.K f0 D C) (h : PE X e (tXcv X.K (LE X.K TT E f))) : PE X e (LE X.K TT E (dUn (gVal C) f)) := h.imp fun σ H Q ⟨ρ, n, P, R, r, q, k, x⟩ => ⟨ρ, n, _, R, r, q, fun d m v H1 z e s => by
  unfold gVal at z
  split at z
  · obtain ⟨rfl, z⟩ := z
    cases s with
    | exc h1 h2 h3 => exact ⟨_, _, _, _, _, _, rfl, h1, c, h2, k _ m _ H1 z e h3⟩
  · exact z.elim, x⟩
/-- isinstance(e, C) of None or an error of the package -/
def gIsX (K : PySem.W.Frag) (C : Addr) : Dat → (Dat → Prop) → Prop
  | .non, P => PySem.W.kitOne K (.type "NoneType") (.ref C) = some false ∧ P (.bl false)
  | .exc C' _, P => (∃ f D, AimC K f D C') ∧ ∃ b, PySem.W.kitOne K (.ref C') (.ref C) = some b ∧ P (.bl b)
  | _, _ => False
theorem call_isiX : CallR X (.builtin "isinstance") (fun xs H Q => rIsi X.K xs H Q ∨ rIsX X.K xs H Q) := callOr call_isi call_isX
theorem de_isX {C : Addr} {e : Expr} {f : DE} (h : PE X e (tCB (fun xs H Q => rIsi X.K xs H Q ∨ rIsX X.K xs H Q) (tCons (LE X.K TT E f) (tCons (tC (.ref C)) tNil)))) : PE X e (LE X.K TT E (dUn (gIsX X.K C) f)) := h.imp fun σ H Q ⟨ρ, n, P, R, r, q, k, x⟩ => ⟨ρ, n, _, R, r, q, fun d m v H1 z e s => by
  unfold gIsX at z
  split at z
  · rw [s.non_iff]
    exact .inl ⟨.non, .ref C, _, _, false, rfl, .own C, .base .non, z.1, k _ m _ H1 z.2 e (.bl _)⟩
  · obtain ⟨⟨f0, D, c⟩, b, hb, z⟩ := z
    cases s with
    | exc h1 h2 h3 => exact .inr ⟨_, _, f0, D, _, _, _, b, rfl, h1, c, ⟨_, _, rfl, h2⟩, .own C, hb, k _ m _ H1 z e (.bl _)⟩
  · exact z.elim, x⟩
/-- _law_caught(lambda: e): None, or the error that e lets out -/
def dCaught (K : PySem.W.Frag) (AE : Addr) (f : DE) : DE := fun ρ n P R => f ρ n (fun _ m => P .non m) fun C d m => PySem.W.exmOne K (.ref C) (.ref AE) = some true ∧ P (.exc C d) m
theorem de_caught {AE : Addr} {e : Expr} {f : DE} (h : PE X e (LamX.tLam TT (TTc X.K AE) (fun E => LE X.K TT E f))) : PE X e (LE X.K TT E (dCaught X.K AE f)) := h.imp fun σ H Q ⟨ρ, n, P, R, r, q, k, x⟩ => by
  refine ⟨x.tab, fun H1 ext tab1 => ?_⟩
  have e1 : Fre TT n H n H1 := ⟨⟨Nat.le_refl _, fun b o e p => ext b o e p.2.2, fun b j l e => ⟨j, l, ext b _ e fun _ z => by unfold PotO at z; cases z⟩, fun _ => tab1⟩, fun b xs e => ext b _ e fun _ z => by unfold OwnO at z; cases z⟩
  refine ⟨ρ, n, _, _, r.fre e1, q, fun d m v H2 z e2 s => k _ m _ H2 z (e1.trans e2) .non, ⟨tab1, fun C d m dd v H2 z e2 hd s => ⟨z.1, fun a ha => ?_⟩⟩⟩
  exact k _ m _ _ z.2 ((e1.trans e2).trans (.grow (.new ha))) (.exc upd_same (Grow.new ha _ _ hd) (s.grow (.new ha)))
end
end Aim

namespace Aim
open PySem PySem.Spec PyProof.Rows L2
open LamX (TabB Tabs CodeO)
section
variable {K : PySem.W.Frag} {TT : List (Addr × Str)} {E : XK} {X : Cx} {n : Nat} {H H' : Hp} {e : Expr} {st : Stmt}
/-! ### pots -/
def gPot (n : Nat) : G2
  | .pot, .int i, P => (i = 0 ∧ ∀ d : Int, 0 ≤ d → P (.int d)) ∨ (i = 1 ∧ ∀ m : Int, -(2 ^ 62) < m → m < 2 ^ 62 → P (.int m)) ∨ (i = 2 ∧ ∀ t : Int, 0 ≤ t → t ≤ n → P (.int t))
  | _, _, _ => False
def dOpN (g : Nat → G2) (fa fb : DE) : DE := fun ρ n P R => fa ρ n (fun d m => fb ρ m (fun e k => g k d e fun z => P z k) R) R
theorem de_ixPot {fa fb : DE} (h : PE X e (tOp rIxP (LE K TT E fa) (LE K TT E fb))) : PE X e (LE K TT E (dOpN gPot fa fb)) := h.imp fun σ H Q ⟨ρ, n, P, R, rl, f, k, x⟩ => by
  refine ⟨ρ, n, _, R, rl, f, fun d m v H1 q1 e1 s1 => ⟨ρ, m, _, R, rl.fre e1, q1, fun e j u H2 q2 e2 s2 => ?_, x.mono e1⟩, x⟩
  unfold gPot at q2
  split at q2
  · have s3 := s1.mono e2.toFra
    cases s3 with
    | pot hp l =>
      have e3 := e1.trans e2
      refine ⟨_, _, _, rfl, s2.int_iff, hp, ?_⟩
      rcases q2 with ⟨i0, q⟩ | ⟨i1, q⟩ | ⟨i2, q⟩
      · exact .inl ⟨i0, fun d d0 => k _ j _ H2 (q d d0) e3 (.int _)⟩
      · exact .inr (.inl ⟨i1, fun m m0 m1 => k _ j _ H2 (q m m0 m1) e3 (.int _)⟩)
      · exact .inr (.inr ⟨i2, fun t t0 t1 => k _ j _ H2 (q t t0 (by omega)) e3 (.int _)⟩)
  · exact q2.elim
def gSetPot (nx : Nat → Prop) (k : Nat) : Dat → Dat → Dat → Prop
  | .pot, .int j, .int z => (j = 0 ∧ 0 ≤ z ∧ nx (k + 1)) ∨ (j = 2 ∧ 0 ≤ z ∧ z ≤ k + 1 ∧ nx (k + 1))
  | _, _, _ => False
def dSetPot (fe fo fi : DE) : DS := fun P ρ n => fe ρ n (fun v m => fo ρ m (fun o j => fi ρ j (fun i k => gSetPot (P.nx ρ) k o i v) P.ex) P.ex) P.ex
theorem ds_setPot {fe fo fi : DE} (h : PS X st (tAsg (LE K TT E fe) (gSub (LE K TT E fo) (LE K TT E fi) rSetP))) : PS X st (LS K TT E (dSetPot fe fo fi)) := h.imp fun D σ H ⟨ρ, n, P, rl, f, k⟩ => by
  refine ⟨ρ, n, _, P.ex, rl, f, fun v m u H1 q1 e1 s1 => ⟨ρ, m, _, P.ex, rl.fre e1, q1, fun o j w H2 q2 e2 s2 => ⟨ρ, j, _, P.ex, (rl.fre e1).fre e2, q2, fun i l y H3 q3 e3 s3 => ?_, (k.ex.toE.mono e1).mono e2⟩, k.ex.toE.mono e1⟩, k.ex.toE⟩
  unfold gSetPot at q3
  split at q3
  · have s4 := s2.mono e3.toFra
    have e5 := (e1.trans e2).trans e3
    cases s4 with
    | pot hp lp =>
      refine ⟨_, _, _, _, rfl, s3.int_iff, s1.int_iff, hp, ?_⟩
      rcases q3 with ⟨j0, z0, q⟩ | ⟨j2, z0, z1, q⟩
      · refine .inl ⟨j0, z0, _, Nat.le_refl _, ?_⟩
        have ep := e5.trans (.pots hp (Nat.le_succ_of_le lp) (Nat.le_succ l))
        exact k.nx ρ (l + 1) σ _ q ep.toFra (rl.fre ep)
      · refine .inr ⟨j2, l + 1, by omega, z0, by push_cast; omega, ?_⟩
        have ep := e5.trans (.pots hp (Nat.le_refl (l + 1)) (Nat.le_succ l))
        exact k.nx ρ (l + 1) σ _ q ep.toFra (rl.fre ep)
  · exact q3.elim
/-- a new list of three numbers is a pot -/
def gNewPot : List Dat → (Dat → Prop) → Prop
  | [.int d, .int m, .int t], P => PotB d m t 0 ∧ P .pot
  | _, _ => False
theorem de_newPot {fr : DA} (h : PE X e (tPot (tLst (LA K TT E fr)))) : PE X e (LE K TT E (dCB gNewPot fr)) := h.imp fun σ H Q ⟨ρ, n, P, R, rl, f, k, x⟩ => ⟨ρ, n, _, R, rl, f, fun ds m vs H1 q1 e1 s1 => by
  unfold gNewPot at q1
  split at q1
  · cases s1 with
    | cons a s1 =>
      cases s1 with
      | cons b s1 =>
        cases s1 with
        | cons c s1 =>
          cases s1
          rw [a.int_iff, b.int_iff, c.int_iff]
          refine ⟨by show 3 ≤ sizeLine; decide, fun p hp => ⟨p, _, _, _, 0, rfl, upd_same, q1.1, ?_⟩⟩
          rw [upd_upd]
          exact k _ m _ _ q1.2 (e1.trans (.grow (.new hp))) (.pot upd_same (Nat.zero_le _))
  · exact q1.elim, x⟩
/-! ### list(range(..)) -/
theorem numL_rg : ∀ (lo : Int) (k : Nat), SeesL K n H ((List.range k).map fun i => V.int (lo + (i : Nat))) (numL lo k) := by
  intro lo k
  have h : ∀ (k : Nat) (lo : Int) (b : Nat), SeesL K n H ((List.range' b k).map fun i => V.int (lo + (i : Nat))) (numL (lo + b) k) := by
    intro k
    induction k with
    | zero => intro lo b; exact .nil
    | succ k ih =>
      intro lo b
      rw [List.range'_succ]
      refine .cons (.int _) ?_
      have := ih lo (b + 1)
      have e : lo + ((b + 1 : Nat) : Int) = lo + b + 1 := by push_cast; omega
      rw [e] at this
      exact this
  have z := h k lo 0
  rw [← List.range_eq_range'] at z
  simpa using z
def gRg1 (f : DE) : DA := fun ρ n P R => f ρ n (fun d m => asI d fun j => (-1000000 ≤ j ∧ j ≤ 1000000) ∧ P (numL 0 j.toNat) m) R
def gRg2 (fa fb : DE) : DA := fun ρ n P R => fa ρ n (fun d m => fb ρ m (fun e k => asI d fun i => asI e fun j => (-1000000 ≤ i ∧ i ≤ 1000000 ∧ -1000000 ≤ j ∧ j ≤ 1000000) ∧ P (numL i (j - i).toNat) k) R) R
theorem lf_rg1 {f : DE} {σ : L2.St} {H : Hp} {Q : VK} (h : LF K TT E (gRg1 f) σ H Q) : tLstRg (tRg1 (LE K TT E f)) σ H Q := by
  obtain ⟨ρ, n, P, R, r, q, k, x⟩ := h
  refine ⟨ρ, n, _, R, r, q, fun d m v H1 z e s => ?_, x⟩
  obtain ⟨j, rfl, ⟨h0, h1⟩, z⟩ := asI_of z
  refine ⟨j, s.int_iff, ⟨by omega, by omega, by omega, by omega, by omega⟩, fun l hl => ?_⟩
  refine lf_grow k z e hl ?_ ?_
  · rw [rgV_length]
    have : (j - 0).toNat ≤ 1000000 := by omega
    exact Nat.le_trans this (by decide)
  · unfold rgV
    rw [Int.sub_zero]
    exact numL_rg 0 _
theorem lf_rg2 {fa fb : DE} {σ : L2.St} {H : Hp} {Q : VK} (h : LF K TT E (gRg2 fa fb) σ H Q) : tLstRg (tRg2 (LE K TT E fa) (LE K TT E fb)) σ H Q := by
  obtain ⟨ρ, n, P, R, r, q, k, x⟩ := h
  refine ⟨ρ, n, _, R, r, q, fun d m v H1 z e s => ⟨ρ, m, _, R, r.fre e, z, fun d2 m2 v2 H2 z2 e2 s2 => ?_, x.mono e⟩, x⟩
  obtain ⟨i, rfl, z3⟩ := asI_of z2
  obtain ⟨j, rfl, h0, z4⟩ := asI_of z3
  refine ⟨i, j, s.int_iff, s2.int_iff, ⟨by omega, by omega, by omega, by omega, by omega⟩, fun l hl => ?_⟩
  refine lf_grow k z4 (e.trans e2) hl ?_ (numL_rg i _)
  rw [rgV_length]
  have : (j - i).toNat ≤ 2000000 := by omega
  exact Nat.le_trans this (by decide)
/-! ### own lists: append, insert -/
def gAppend : GO
  | ds, [a], P => ds.length < sizeLine ∧ P (ds ++ [a])
  | _, _, _ => False
theorem od_append : OwnD K rAppend gAppend := fun n l xs vs ds as G H Q P g sx sv hl lx k => by
  unfold gAppend at g
  split at g
  · obtain ⟨v, rfl, w⟩ := sv.one
    have h := g.1
    rw [← sx.length] at h
    exact ⟨l, xs, v, rfl, rfl, hl, h, k _ _ g.2 (sx.append (.cons w .nil)) (by rw [List.length_append, List.length_singleton]; omega)⟩
  · exact g.elim
def gInsert : GO
  | ds, [.int i, a], P => (ds.length < sizeLine ∧ 0 ≤ i ∧ i < 2 ^ 63) ∧ P (ds.take i.toNat ++ [a] ++ ds.drop i.toNat)
  | _, _, _ => False
theorem od_insert : OwnD K (fun x vs H Q => ∃ (l : Addr) (xs : List V) (i : Int) (y : V), x = .ref l ∧ vs = [.int i, y] ∧ H l = some (.lst xs) ∧ xs.length < sizeLine ∧ 0 ≤ i ∧ i < 2 ^ 63 ∧ Q .non (upd H l (.lst (xs.take i.toNat ++ [y] ++ xs.drop i.toNat)))) gInsert := fun n l xs vs ds as G H Q P g sx sv hl lx k => by
  unfold gInsert at g
  split at g
  · obtain ⟨v, u, rfl, w1, w2⟩ := sv.two
    obtain ⟨⟨h, h0, h1⟩, g⟩ := g
    rw [← sx.length] at h
    refine ⟨l, xs, _, u, rfl, by rw [w1.int_iff], hl, h, h0, h1, k _ _ g (((sx.take _).append (.cons w2 .nil)).append (sx.drop _)) ?_⟩
    simp only [List.length_append, List.length_take, List.length_drop, List.length_singleton]
    omega
  · exact g.elim
/-! ### an own list read for a flat answer -/
theorem tabs_map2 {H G : Hp} (t : Tabs TT H) (k : ∀ b o, H b = some o → (∃ ps, o = .tbl ps) ∨ (∃ q, o = CodeO b q) → G b = some o) : Tabs TT G := fun x hx => by
  obtain ⟨ps, h1, h2, h3⟩ := t x hx
  refine ⟨ps, k _ _ h1 (.inl ⟨_, rfl⟩), h2, fun pos cv hc => ?_⟩
  obtain ⟨c, e1, e2⟩ := h3 pos cv hc
  exact ⟨c, e1, k _ _ e2 (.inr ⟨_, rfl⟩)⟩
def dBor (i : Nat) (f : DE) : DE := fun ρ n P _ => ownOf (slAt ρ i) fun ds => f (ρ.set i (.val (.lst ds))) n (fun d m => flatK d = true ∧ P d m) R0
theorem flat_sees {m k : Nat} {H1 H2 : Hp} {v : V} {d : Dat} (s : Sees K m H1 v d) (f : flatK d = true) : Sees K k H2 v d := by
  cases s with
  | non => exact .non
  | bl b => exact .bl b
  | int i => exact .int i
  | str x l => exact .str x l
  | _ => cases f
theorem de_bor {i : Nat} {f : DE} (h : PE X e (LE K TT E f)) : PE X e (LE K TT E (dBor i f)) := ⟨fun pins s σ H Q I ⟨ρ, n, P, R, rl, q, k, x⟩ => by
  obtain ⟨ds, hρ, q⟩ := ownOf_of q
  obtain ⟨a, xs, hσ, l, hH, sx⟩ := rl.owned hρ
  have fm : Fra TT n H n (upd H a (.lst xs)) := .melt l hH
  have me : Owns ρ σ i a := ⟨⟨ds, hρ⟩, hσ⟩
  have rl2 : Rel K (ρ.set i (.val (.lst ds))) n σ (upd H a (.lst xs)) := by
    have z := (Rel.drop (i := i) (o := none) rl).mono fm fun j b zs ow lz eb => by
      rw [upd_ne]
      intro w
      subst w
      obtain ⟨⟨ds', e1⟩, e2⟩ := ow
      by_cases hij : i = j
      · subst hij
        rw [List.getElem?_set] at e1
        split at e1
        · split at e1 <;> cases e1
        · rename_i w
          exact w rfl
      · rw [List.getElem?_set_ne hij] at e1 e2
        exact rl.ap i j b b hij me ⟨⟨ds', e1⟩, e2⟩ rfl
    have w := z.put (i := i) (Sees.lstOf (K := K) (n := n) (H := upd H a (.lst xs)) upd_same l (sx.mono fm))
    simp only [List.set_set] at w
    rw [(rl.here hρ hσ).2] at w
    exact w
  refine thn (h.run pins s σ (upd H a (.lst xs)) (fun v H1 => H1 a = some (.lst xs) ∧ Q v (upd H1 a (OwnO xs a))) (of_own I hH) ⟨_, n, _, R0, rl2, q, fun d m v H1 q1 e1 s1 => ?_, .zero (fm.tab x.tab)⟩) fun u s1 ⟨v, H1, J, r, ha, q1⟩ => ⟨v, _, to_own J ha, r, q1⟩
  have ha : H1 a = some (.lst xs) := e1.keep _ _ upd_same (perm_ext (fun _ z => nomatch z) fun _ z => nomatch z)
  refine ⟨ha, k d m v _ q1.2 ⟨⟨e1.le, fun b o eb p => ?_, fun b j lj eb => ?_, fun t => ?_⟩, fun b ys eb => ?_⟩ (flat_sees s1 q1.1)⟩
  · have hb := own_perm l hH eb p
    rw [upd_ne hb]
    exact e1.keep b o (by rw [upd_ne hb]; exact eb) p
  · have hb : b ≠ a := fun z => by
      subst z
      rw [hH] at eb
      exact own_pot (Option.some.inj eb)
    obtain ⟨i, h1, h2⟩ := e1.pot b j lj (by rw [upd_ne hb]; exact eb)
    exact ⟨i, h1, by rw [upd_ne hb]; exact h2⟩
  · refine tabs_map2 (e1.tab (fm.tab t)) fun b o w kind => ?_
    rw [upd_ne fun z => ?_]
    · exact w
    · subst z
      rw [ha] at w
      cases w
      rcases kind with ⟨ps, z⟩ | ⟨q, z⟩
      · cases z
      · unfold CodeO at z
        cases z
  · by_cases hb : b = a
    · subst hb
      rw [hH] at eb
      rw [upd_same]
      exact eb
    · rw [upd_ne hb]
      exact e1.own b ys (by rw [upd_ne hb]; exact eb)⟩
end
end Aim

namespace Aim
open PySem PySem.Spec PyProof.Rows L2
open LamX (TabB Tabs CodeO)
section
variable {P : Program} {w : World} {K : PySem.W.Frag} {mg : Str → Option Value} {base : Heap} {TT : List (Addr × Str)} {G : Bool} {x : Str} {st : Stmt} {N ps : List Str} {k : Nat} {sp : DSp}
/-- a def that makes lambdas -/
theorem dat_okC {c : Addr} (F : HasC K mg x st c) (hb : ∀ (kV doc pm : Value) (an : Option Addr) (cdv ct : Value) (us : List Value), us.length = ps.length → bindArgs (PySem.W.fnOf x x (defArgs st) (defBody st) (defScope st) .none kV doc pm an cdv ct) ⟨us, []⟩ = pure (ps.zip us)) (S : FnScope N ps (defScope st))
    (body : ∀ (f : Addr) (A : Around) (outer : List Env) (s : Shared) (H : Hp) (E : XK), Room k (A.deeper (envOfC x (defScope st) s.heap.objs.size f (.ref c))) → (G = true → A.guards = some []) →
      ∃ g, PSs (cxOf (L2.CX P w) P w K mg base N x (defScope st) f (.ref c) A outer s H E).nox (defBody st) (LS K TT E0 g) ∧ ∀ ds n PP R, sp ds n PP R → ds.length = ps.length ∧ g { nx := fun _ m => PP .non m, rt := PP, ex := R0 } (dstart N ds) n)
    (hl : ∀ ds n PP R, sp ds n PP R → ds.length = ps.length) : Df P w K mg base G (k + 1) x (LSp K TT sp) := by
  refine df_okC F S (fun vs H Q E h => ?_) hb (fun f A outer s H vs Q E hr hG h => ?_)
  · obtain ⟨ds, n, PP, R, s, h, _⟩ := h
    rw [s.length]
    exact hl _ _ _ _ h
  · obtain ⟨g, hp, q⟩ := body f A outer s H E hr hG
    obtain ⟨ds, n, PP, R, se, h, kQ, kE⟩ := h
    exact ⟨_, hp, ends_of se (q ds n PP R h).2 kQ (.zero kE.tab)⟩
/-- a weaker promise -/
theorem Df.wk {sp' : DSp} (d : Df P w K mg base G k x (LSp K TT sp)) (h : ∀ ds n PP R, sp' ds n PP R → sp ds n PP R) : Df P w K mg base G k x (LSp K TT sp') := d.imp fun _ _ _ _ ⟨ds, n, PP, R, s, q, r⟩ => ⟨ds, n, PP, R, s, h _ _ _ _ q, r⟩
/-- a module's constant -/
def GC (K : PySem.W.Frag) (mg : Str → Option Value) (x : Str) (d : Dat) : Prop := ∃ v u, mg x = some u ∧ RelV v u ∧ ∀ n H, Sees K n H v d
end
section
variable {X : Cx} {TT : List (Addr × Str)} {E : XK} {x : Str} {d : Dat} {pos : Pos}
theorem de_g (hg : Gl X x) (h : GC X.K X.mg x d) (hd : (x == ("__debug__" : Str)) = false := by decide) : PE X (.Name x pos) (LE X.K TT E (dC d)) := by
  obtain ⟨v, u, h1, h2, h3⟩ := h
  exact de_c (pe_glob hg h1 h2 hd) h3
end
theorem units65 {k : Nat} {A : Around} (r : Room k A) : A.units + 65 < cLine := by have := r.un; omega
/-- a target of names takes a tuple of their number -/
def nameT : List Nat → DGs
  | [] => dgNil
  | i :: r => dgCons (dgName i) (nameT r)
theorem dgl_len : ∀ {l : List Nat} {ds : List Dat} {ρ : List Sl} {Q : List Sl → Prop}, nameT l ds ρ Q → ds.length = l.length
  | [], ds, _, _, h => dgl_nil h
  | i :: r, [], _, _, h => False.elim h
  | i :: r, d :: ds, _, _, h => congrArg (· + 1) (dgl_len (l := r) (show nameT r ds _ _ from h))
/-- what follows is shown once, from M -/
def dCut (g1 g2 : DS) : DS := fun P ρ n => ∃ M : List Sl → Nat → Prop, g1 { P with nx := M } ρ n ∧ ∀ ρ' m, M ρ' m → g2 P ρ' m
theorem dss_cut {K : PySem.W.Frag} {TT : List (Addr × Str)} {E : XK} {X : Cx} {st : Stmt} {sts : List Stmt} {g1 g2 : DS} (h1 : PS X st (LS K TT E g1)) (h2 : PSs X sts (LS K TT E g2)) : PSs X (st :: sts) (LS K TT E (dCut g1 g2)) := (pss_cons h1 h2).imp fun D σ H ⟨ρ, n, P, r, ⟨M, f, q⟩, k⟩ =>
  ⟨ρ, n, { P with nx := M }, r, f, ⟨fun ρ' m σ' H' z e r' => ⟨ρ', m, P, r', q ρ' m z, k.mono e⟩, k.rt, k.bk, k.ct, k.ex⟩⟩
/-! ### for and comprehensions, by what holds at each turn -/
def dForI (fi : DI) (tg : DG) (body : DS) : DS := fun P ρ n => fi ρ n (fun ds m => ∃ I : Nat → List Sl → Nat → Prop, I 0 ρ m ∧
  (∀ i d ρ' j, ds[i]? = some d → I i ρ' j → tg d ρ' fun ρ2 => body { P with nx := I (i + 1), ct := I (i + 1), bk := P.nx } ρ2 j) ∧ ∀ ρ' j, I ds.length ρ' j → P.nx ρ' j) P.ex
section
variable {K : PySem.W.Frag} {TT : List (Addr × Str)} {E : XK} {X : Cx}
theorem LS.forI {fi : DI} {vs : List Nat} {tg : DG} {body : DS} {D : Ends} {σ : L2.St} {H : Hp} (h : LS K TT E (dForI fi tg body) D σ H) : tFor (LI K TT E fi) (LG K vs tg) (LS K TT E body) D σ H := by
  obtain ⟨ρ, n, P, r, f, k⟩ := h
  refine ⟨ρ, n, _, P.ex, r, f, fun ds m J H1 q e it => ?_, k.ex.toE⟩
  have k1 := k.mono e.toFra
  obtain ⟨I, i0, st, dn⟩ := q
  refine ⟨fun i j σ' H' => j = ds.length - i ∧ i ≤ ds.length ∧ ∃ ρ' m', Rel K ρ' m' σ' H' ∧ Fra TT m H1 m' H' ∧ I i ρ' m', ⟨ds.length, by simp, Nat.zero_le _, ρ, m, r.fre e, .refl, i0⟩, ?_⟩
  rintro i j σ' H' ⟨rfl, hi, ρ', m', r', g, l⟩
  by_cases hlt : i < ds.length
  · refine .inr ⟨it.goes i _ _ hlt g, fun σ2 H2 => ∃ ρ2 m2, Rel K ρ2 m2 σ2 H2 ∧ Fra TT m H1 m2 H2 ∧ I (i + 1) ρ2 m2, fun σ2 H2 z => ⟨ds.length - (i + 1), by omega, rfl, hlt, z⟩, fun x H2 y => ?_⟩
    obtain ⟨gr, sx⟩ := it.yields i m' H' x H2 _ (List.getElem?_eq_getElem hlt) g y
    have g2 := g.trans (.grow gr)
    refine ⟨ρ', m', _, _, r'.grow gr, sx H2 g2 (fun _ _ e _ => e), st i _ ρ' m' (List.getElem?_eq_getElem hlt) l, fun ρ3 σ3 b3 r3 _ => ⟨ρ3, m', _, r3, b3, ?_⟩⟩
    exact ⟨fun ρ4 m4 σ4 H4 q4 g4 r4 => ⟨ρ4, m4, r4, g2.trans g4, q4⟩, fun d m4 v H4 q4 g4 s4 => k1.rt d m4 v H4 q4 (g2.trans g4) s4, fun ρ4 m4 σ4 H4 q4 g4 r4 => k1.nx ρ4 m4 σ4 H4 q4 (g2.trans g4) r4, fun ρ4 m4 σ4 H4 q4 g4 r4 => ⟨ρ4, m4, r4, g2.trans g4, q4⟩, k1.ex.mono g2⟩
  · have e : i = ds.length := by omega
    subst e
    exact .inl ⟨it.stops _ _ g, k1.nx ρ' m' σ' H' (dn _ _ l) g r'⟩
theorem ds_forI {iter tg : Expr} {body : List Stmt} {fi : DI} {vs : List Nat} {g : DG} {gb : DS} {pos : Pos} (hp : PassesOwn (model X.prog X.w) X.A X.env X.xe) (hc : X.calm = true) (hi : PI X tg iter (LI K TT E fi)) (hg : PG X tg (LG K vs g)) (hb : PSs X body (LS K TT E gb))
    (hs : ∀ x, foldedSetIterable iter X.env x = pure x := by intro _; rfl) : PS X (.For tg iter body [] pos) (LS K TT E (dForI fi g gb)) := (ps_for hp hc hi hg hb hs).imp fun _ _ _ h => h.forI
end
/-- the turns of a comprehension, by what holds at each -/
def compI (l : List Nat) (tg : DG) (tt : DT) (fe : DE) (ρ : List Sl) (P : List Dat → Nat → Prop) (ds : List Dat) (m : Nat) : Prop := ∃ I : Nat → List Dat → Nat → Prop, I 0 [] m ∧
  (∀ i d acc j, ds[i]? = some d → I i acc j → tg d (wiped ρ l) fun ρ' => tt ρ' j (fun b k => if b = true then fe ρ' k (fun y z => I (i + 1) (acc ++ [y]) z) R0 else I (i + 1) acc k) R0) ∧ ∀ acc j, I ds.length acc j → P acc j
def dLcI (fi : DI) (l : List Nat) (tg : DG) (tt : DT) (fe : DE) : DA := fun ρ n P R => fi ρ n (fun ds m => compI l tg tt fe ρ P ds m) R
/-- each item gives f of it, or nothing -/
theorem compI_pure {l : List Nat} {tg : DG} {tt : DT} {fe : DE} {ρ : List Sl} {P : List Dat → Nat → Prop} {ds : List Dat} {m : Nat} (f : Dat → Option Dat)
    (h : ∀ d ∈ ds, ∀ (Q : Dat → Nat → Prop) (Z : Nat → Prop), (∀ y, f d = some y → Q y m) → (f d = none → Z m) → tg d (wiped ρ l) fun ρ' => tt ρ' m (fun b k => if b = true then fe ρ' k Q R0 else Z k) R0) (k : P (ds.filterMap f) m) : compI l tg tt fe ρ P ds m := by
  refine ⟨fun i acc j => acc = (ds.take i).filterMap f ∧ j = m, ⟨by simp, rfl⟩, fun i d acc j hd ⟨e1, e2⟩ => ?_, fun acc j ⟨e1, e2⟩ => ?_⟩
  · subst e1
    subst e2
    have ht : ds.take (i + 1) = ds.take i ++ [d] := by
      rw [List.take_add_one, hd]
      rfl
    refine h d (List.mem_of_getElem? hd) _ _ (fun y hy => ⟨?_, rfl⟩) (fun hy => ⟨?_, rfl⟩)
    · rw [ht, List.filterMap_append]
      simp [hy]
    · rw [ht, List.filterMap_append]
      simp [hy]
  · rw [e1, e2, List.take_length]
    exact k
theorem compI_map {l : List Nat} {tg : DG} {fe : DE} {ρ : List Sl} {P : List Dat → Nat → Prop} {ds : List Dat} {m : Nat} (f : Dat → Dat)
    (h : ∀ d ∈ ds, ∀ (Q : Dat → Nat → Prop), Q (f d) m → tg d (wiped ρ l) fun ρ' => fe ρ' m Q R0) (k : P (ds.map f) m) : compI l tg (fun _ n P _ => P true n) fe ρ P ds m := by
  refine compI_pure (fun d => some (f d)) (fun d hd Q Z q _ => h d hd Q (q _ rfl)) ?_
  rw [List.filterMap_eq_map']
  exact k
section
variable {K : PySem.W.Frag} {TT : List (Addr × Str)} {E : XK} {X : Cx}
theorem comp_of {l : List Nat} {tg : DG} {tt : DT} {fe : DE} {ρ : List Sl} {P : List Dat → Nat → Prop} {σ : L2.St} {H : Hp} {fi : DI} {vs : List Nat} {Q : VK} (hl : ∀ i ∈ vs, i ∈ l) (h : LF K TT E (dLcI fi l tg tt fe) σ H Q) : tLc (LI K TT E fi) (gHide (LG K vs tg)) (tHideT (LTs K TT E0 tt)) (tHide (LE K TT E0 fe)) l σ H Q := by
  obtain ⟨ρ, n, P, R, r, f, k, x⟩ := h
  refine ⟨ρ, n, _, R, r, f, fun ds m J H1 q e it D hD => ?_, x⟩
  obtain ⟨I, i0, st, dn⟩ := q
  have tab1 := e.tab x.tab
  have r1 := r.fre e
  have hD0 : ∀ ys, H D ≠ some (OwnO ys D) := fun ys w => by rw [e.own D ys w] at hD; cases hD
  refine ⟨fun i j H' => j = ds.length - i ∧ i ≤ ds.length ∧ ∃ m' xs as, H' D = some (.lst xs) ∧ xs.length ≤ i ∧ Fre TT m H1 m' (upd H' D (OwnO xs D)) ∧ SeesL K m' (upd H' D (OwnO xs D)) xs as ∧ I i as m', ⟨ds.length, by simp, Nat.zero_le _, m, [], [], upd_same, Nat.le_refl _, ?_, .nil, i0⟩, ?_⟩
  · rw [upd_upd]
    exact .grow (.new hD)
  rintro i j H' ⟨rfl, hi, m', xs, as, hx, hl', g, sx, c⟩
  by_cases hlt : i < ds.length
  · have c := st i _ as m' (List.getElem?_eq_getElem hlt) c
    have lx : xs.length ≤ sizeLine := Nat.le_trans hl' (Nat.le_trans hi it.len)
    have back : upd (upd H' D (OwnO xs D)) D (.lst xs) = H' := upd_back hx
    have gm : Fra TT m H1 m' H' := by
      have z := g.toFra.trans (Fra.melt (TT := TT) (n := m') (ys := xs) lx (show upd H' D (OwnO xs D) D = some (OwnO xs D) from upd_same))
      rw [back] at z
      exact z
    refine .inr ⟨it.goes i _ _ hlt gm, fun H2 => ∃ m2 ys bs, H2 D = some (.lst ys) ∧ ys.length ≤ i + 1 ∧ Fre TT m H1 m2 (upd H2 D (OwnO ys D)) ∧ SeesL K m2 (upd H2 D (OwnO ys D)) ys bs ∧ I (i + 1) bs m2, fun H2 z => ⟨ds.length - (i + 1), by omega, rfl, hlt, z⟩, fun x H2 y => ?_⟩
    obtain ⟨gr, sx2⟩ := it.yields i m' H' x H2 _ (List.getElem?_eq_getElem hlt) gm y
    have hx2 : H2 D = some (.lst xs) := gr _ _ hx
    have gr2 : Grow (upd H' D (OwnO xs D)) (upd H2 D (OwnO xs D)) := fun b o w => by
      by_cases hb : b = D
      · subst hb
        rw [upd_same] at w ⊢
        exact w
      · rw [upd_ne hb] at w ⊢
        exact gr b o w
    have g2 : Fre TT m H1 m' (upd H2 D (OwnO xs D)) := g.trans (.grow gr2)
    have sx3 := sx2 _ g2.toFra fun b o w1 w2 => by
      rw [upd_ne fun z => by rw [z, hx] at w2; cases w2]
      exact w1
    refine ⟨D, xs, hx2, _, m', _, _, (r1.fre g2).wipe l, sx3, c, fun ρ3 σ3 q3 r3 w3 => ⟨upd_same, ?_⟩⟩
    rw [upd_back hx2]
    refine ⟨(w3 l hl).trans ?_, D, xs, hx2, ρ3, m', _, _, r3, q3, fun b m3 H3 q4 e3 => ⟨e3.own _ _ upd_same, ?_⟩, .zero (g2.tab tab1)⟩
    · exact wipe_wipe σ l
    · have o3 : H3 D = some (OwnO xs D) := e3.own _ _ upd_same
      have b3 : upd (upd H3 D (.lst xs)) D (OwnO xs D) = H3 := upd_back o3
      have g3 := g2.trans e3
      cases b with
      | true =>
        refine ⟨D, xs, upd_same, ?_⟩
        rw [b3]
        refine ⟨ρ3, m3, _, _, r3.fre e3, q4, fun d4 m4 v4 H4 q5 e4 s4 => ⟨e4.own _ _ o3, xs, upd_same, ?_, m4, xs ++ [v4], as ++ [d4], upd_same, by simp; omega, ?_, ?_, q5⟩, .zero (g3.tab tab1)⟩
        · have := it.len
          omega
        all_goals rw [upd_upd, upd_upd]
        · refine ⟨(g3.trans e4).toFra.trans (.own (e4.own _ _ o3) lx), fun b ys w => ?_⟩
          rw [upd_ne fun z => by rw [z, hD] at w; cases w]
          exact (g3.trans e4).own b ys w
        · have fo : Fra TT m4 H4 m4 (upd H4 D (OwnO (xs ++ [v4]) D)) := .own (e4.own _ _ o3) lx
          exact ((((sx.grow gr2).mono e3.toFra).mono e4.toFra).mono fo).append (.cons (s4.mono fo) .nil)
      | false =>
        refine ⟨m3, xs, as, upd_same, by omega, ?_, ?_, q4⟩
        all_goals rw [b3]
        · exact g3
        · exact ((sx.grow gr2).mono e3.toFra)
  · have e2 : i = ds.length := by omega
    subst e2
    have lx : xs.length ≤ sizeLine := Nat.le_trans hl' it.len
    have back : upd (upd H' D (OwnO xs D)) D (.lst xs) = H' := upd_back hx
    have gm : Fra TT m H1 m' H' := by
      have z := g.toFra.trans (Fra.melt (TT := TT) (n := m') (ys := xs) lx (show upd H' D (OwnO xs D) D = some (OwnO xs D) from upd_same))
      rw [back] at z
      exact z
    exact .inl ⟨it.stops _ _ gm, k as m' xs D H' (dn _ _ c) hD0 hx lx (e.trans g) sx⟩
variable {e elt tg iter : Expr} {st : Stmt} {pos spos : Pos}
theorem lf_lcI {ifs : List Expr} {scope : Scope} {own : List (Str × Nat)} {fi : DI} {vs : List Nat} {g : DG} {tt : DT} {fe : DE} (hc : X.calm = true) (hN : X.N.Nodup) (hi : PI X tg iter (LI K TT E fi)) (ok : BlkOk X.N X.env.scope scope own)
    (hg : ∀ (s : Shared) (H : Hp) (C : Addr) (cl : List (Str × Addr)) (fp : List Addr), PG (X.blk s H scope (compEnvC scope cl C X.env) fp) tg (LG K vs g)) (ht : ∀ (s : Shared) (H : Hp) (C : Addr) (cl : List (Str × Addr)) (fp : List Addr), PTs (X.blk s H scope (compEnvC scope cl C X.env) fp) ifs (LTs K TT E0 tt))
    (he : ∀ (s : Shared) (H : Hp) (C : Addr) (cl : List (Str × Addr)) (fp : List Addr), PE (X.blk s H scope (compEnvC scope cl C X.env) fp) elt (LE K TT E0 fe)) (hl : ∀ i ∈ vs, i ∈ own.map (·.2) := by simp) (hs : ∀ x, foldedSetIterable iter X.env x = pure x := by intro _; rfl) :
    PE X (.ListComp elt [⟨tg, iter, ifs, 0⟩] scope pos) (LF K TT E (dLcI fi (own.map (·.2)) g tt fe)) := (pe_lc hc hN hi ok (fun s H C cl fp => pg_hide (hg s H C cl fp)) (fun s H C cl fp => pts_hide (ht s H C cl fp)) (fun s H C cl fp => pe_hide (he s H C cl fp)) hs).imp fun _ _ _ h => comp_of (ρ := []) (P := fun _ _ => True) hl h
theorem st_lcI {i : Nat} {y : Str} {py : Pos} {ifs : List Expr} {scope : Scope} {own : List (Str × Nat)} {fi : DI} {vs : List Nat} {g : DG} {tt : DT} {fe : DE} (hc : X.calm = true) (hN : X.N.Nodup) (hy : X.N[i]? = some y) (hyl : X.env.scope.names.lookup y = some .local)
    (hsw : swapsWith (.ListComp elt [⟨tg, iter, ifs, 0⟩] scope pos) (some (.Name y py)) spos.line X.env = pure true) (hi : PI X tg iter (LI K TT E fi)) (ok : BlkOk X.N X.env.scope scope own)
    (hg : ∀ (s : Shared) (H : Hp) (C : Addr) (cl : List (Str × Addr)) (fp : List Addr), PG (X.blk s H scope (compEnvC scope cl C X.env) fp) tg (LG K vs g)) (ht : ∀ (s : Shared) (H : Hp) (C : Addr) (cl : List (Str × Addr)) (fp : List Addr), PTs (X.blk s H scope (compEnvC scope cl C X.env) fp) ifs (LTs K TT E0 tt))
    (he : ∀ (s : Shared) (H : Hp) (C : Addr) (cl : List (Str × Addr)) (fp : List Addr), PE (X.blk s H scope (compEnvC scope cl C X.env) fp) elt (LE K TT E0 fe)) (hl : ∀ i ∈ vs, i ∈ own.map (·.2) := by simp) (hs : ∀ x, foldedSetIterable iter X.env x = pure x := by intro _; rfl) :
    PS X (.Assign [.Name y py] (.ListComp elt [⟨tg, iter, ifs, 0⟩] scope pos) spos) (tAsg (LF K TT E (dLcI fi (own.map (·.2)) g tt fe)) (gName i)) := (ps_setLc hc hN hy hyl hsw hi ok (fun s H C cl fp => pg_hide (hg s H C cl fp)) (fun s H C cl fp => pts_hide (ht s H C cl fp)) (fun s H C cl fp => pe_hide (he s H C cl fp)) hs).imp fun D σ H h => by
  have h : LF K TT E _ σ H (fun x H1 => gName i x σ H1 D.nx) := h
  exact comp_of (ρ := []) (P := fun _ _ => True) hl h
end
/-! ### reading -/
theorem ifT {A B : Prop} (h : A) : if true = true then A else B := iteT h
theorem ifF {A B : Prop} (h : B) : if false = true then A else B := iteF h
end Aim

namespace Aim
open PySem PySem.Spec PyProof.Rows L2 HT
open LamX (TabB Tabs CodeO)
section
variable {prog : Program} {w : World} {A : Around} {E : Value → Shared → Prop} {s : Shared}
theorem rev_adjust (n : Nat) : Builtin.Slice.sliceAdjust none none (-1) (n : Int) = ((n : Int) - 1, -1) := by
  unfold Builtin.Slice.sliceAdjust
  simp
theorem rev_places (n : Nat) : Builtin.Slice.slicePlaces ((n : Int) - 1) (-1) (-1) = n := by
  unfold Builtin.Slice.slicePlaces
  have h1 : ¬ ((-1 : Int) > 0) := by decide
  simp only [h1, if_false]
  split
  · rw [show (-(-1 : Int)) = 1 by decide, Int.ediv_one]
    omega
  · omega
theorem rev_applied {sl : Addr} {n : Nat} {t : Tok} {Q : Int × Int × Nat → Shared → Prop} (hs : s.heap.IsSliceOf sl .none .none (.int (-1) t)) (h : Q ((n : Int) - 1, -1, n) s) : wpAny (model prog w) A (Builtin.Slice.sliceApplied (.ref sl) (pure (n : Int))) Q E s := by
  obtain ⟨os, hos, hcs, hds⟩ := id hs
  unfold Builtin.Slice.sliceApplied Builtin.Slice.sliceFields
  refine wpAny_bind (wpAny_bind (wpAny_field hos hds (x := .none) rfl (wpAny_bind (wpAny_field hos hds (x := .none) rfl (wpAny_bind (wpAny_field hos hds (x := .int (-1) t) rfl (wpAny_pure ?_)))))))
  refine wpAny_bind (slicePart_int ?_)
  show wpAny _ _ (if ((-1 : Int) == 0) = true then _ else _) _ _ s
  rw [if_neg (by decide)]
  refine wpAny_bind (slicePart_none (wpAny_bind (slicePart_none (wpAny_bind (wpAny_pure ?_)))))
  show wpAny _ _ (match Builtin.Slice.sliceAdjust none none (-1) (n : Int) with | (lo, hi) => pure (lo, (-1 : Int), Builtin.Slice.slicePlaces lo hi (-1))) _ _ s
  rw [rev_adjust n]
  show wpAny _ _ (pure ((n : Int) - 1, (-1 : Int), Builtin.Slice.slicePlaces ((n : Int) - 1) (-1) (-1))) _ _ s
  rw [rev_places]
  exact wpAny_pure h
theorem fm_congr {α β : Type} {f g : α → Option β} : ∀ {l : List α}, (∀ m ∈ l, f m = g m) → l.filterMap f = l.filterMap g
  | [], _ => rfl
  | x :: r, h => by
    rw [List.filterMap_cons, List.filterMap_cons, h x (by simp), fm_congr fun m hm => h m (by simp [hm])]
theorem rev_pick (xs : Array Value) : ((List.range xs.size).filterMap fun (m : Nat) => xs[(((xs.size : Int) - 1) + (m : Int) * (-1)).toNat]?).toArray = xs.toList.reverse.toArray := by
  have e : ∀ m ∈ List.range xs.size, xs[(((xs.size : Int) - 1) + (m : Int) * (-1)).toNat]? = xs[xs.size - 1 - m]? := fun m hm => by
    have := List.mem_range.mp hm
    congr 1
    omega
  rw [fm_congr e]
  have h2 : ((List.range xs.size).filterMap fun m => xs[xs.size - 1 - m]?) = ((List.range xs.size).map fun k => xs.size - 1 - k).filterMap (xs[·]?) := by rw [List.filterMap_map]; rfl
  rw [h2, PySem.W.krv_range, List.filterMap_reverse, PySem.W.krv_all]
theorem getItem_tuple_rev {t sl : Addr} {items : Array Value} {tk : Tok} {Q : Value → Shared → Prop} (ht : IsTup s.heap t items) (hs : s.heap.IsSliceOf sl .none .none (.int (-1) tk))
    (h : Q (.ref s.heap.objs.size) { s with heap := s.heap.push { cls := .type "tuple", data := .seq items.toList.reverse.toArray } }) (hsz : items.size ≤ sizeLine) : wpAny (model prog w) A (getItem (.ref t) (.ref sl)) Q E s := by
  have htake : sizeOk (.seq items.toList.reverse.toArray) := by
    show items.toList.reverse.toArray.size ≤ sizeLine
    simpa using hsz
  obtain ⟨os, hos, hcs, hds⟩ := id hs
  have hTs : s.TypeIs (.ref sl) "slice" := ⟨os, hos, hcs⟩
  unfold getItem
  try with_reducible refine wpAny_holding ?_
  first | refine wpAny_bind (wpAny_pure ?_) | skip
  refine wpAny_bind (wpAny_sequenceKey ht.typeIs (by decide) ?_)
  refine wpAny_bind (wpAny_callSpecial?_slot (name := Str.ofString "__getitem__") ht.typeIs PyProof.Rows.slot_tuple_getitem
    (wpAny_call_entry PyProof.Rows.slot_tuple_getitem ht.typeIs PyProof.Rows.entry_tuple_getitem ?_ (PyProof.Rows.args_tuple_getitem _ _)))
  show wpAny _ _ (Builtin.Tuple.tupleItemsOf (.ref t) >>= _) _ _ s
  refine wpAny_bind (tupleItemsOf_ ht ?_)
  refine wpAny_bind (wpAny_typeOf hTs ?_)
  rw [if_pos (by decide)]
  refine wpAny_bind (rev_applied hs ?_)
  have hno : ¬ ((((items.size : Int) - 1) == 0 && (-1 : Int) == 1 && items.size == items.size) = true) := by simp
  show wpAny _ _ (if (((items.size : Int) - 1) == 0 && (-1 : Int) == 1 && items.size == items.size) = true then _ else _) _ _ s
  rw [if_neg hno, rev_pick]
  first
    | exact wpAny_bind (m := Builtin.Tuple.tupleExact _) (wpAny_newObj_type (wpAny_pure ⟨_, rfl, wpAny_pure h⟩) htake)
    | exact wpAny_bind (m := Builtin.Tuple.tupleExact _) (wpAny_newObj_type (wpAny_bind (wpAny_pure (wpAny_pure ⟨_, rfl, wpAny_pure h⟩))) htake)
    | exact wpAny_bind (wpAny_bind (m := Builtin.Tuple.tupleExact _) (wpAny_newObj_type (wpAny_pure (wpAny_pure ⟨_, rfl, wpAny_pure h⟩)) htake))
    | exact wpAny_bind (wpAny_bind (m := Builtin.Tuple.tupleExact _) (wpAny_newObj_type (wpAny_pure ⟨_, rfl, wpAny_pure h⟩) htake))
end
section
variable {X : Cx} {TT : List (Addr × Str)} {E : XK}
def tRevT (K : PySem.W.Frag) (te : TE) : TE := fun σ H Q => te σ H fun x H1 => ∃ a xs, x = .ref a ∧ SqT K H1 a xs ∧ ∀ p, H1 p = none → Q (.ref p) (upd H1 p (.tup xs.reverse))
theorem pe_revT {e : Expr} {te : TE} {k : Nat} {p1 p2 p3 pos : Pos} (he : PE X e te) : PE X (.Subscript e (.Slice none none (some (.UnaryOp .USub (.Constant (.int 1) k p1) p2)) p3) pos) (tRevT X.K te) := by
  refine ⟨fun pins s σ H Q I h => ?_⟩
  refine Subscript_ (thn (he.run pins s σ H _ I h) fun v s1 ⟨x, H1, I1, r1, q1⟩ => ?_)
  obtain ⟨a, xs, ex, hx, q⟩ := q1
  subst ex
  cases r1
  have hst : PO X (some (.UnaryOp .USub (.Constant (.int 1) k p1) p2)) (tPart (tUn (rU fun i => .int (-i)) (tC (.int 1)))) := po_some (pe_un un_neg pe_int)
  refine wpAny_Slice (thn (po_none.run pins s1 σ H1 (fun o H2 => o = none ∧ H2 = H1) I1 ⟨rfl, rfl⟩) fun vl s2 ⟨l, H2, I2, pl, el, e2⟩ => ?_)
  subst el e2
  refine thn (po_none.run pins s2 σ H2 (fun o H3 => o = none ∧ H3 = H2) I2 ⟨rfl, rfl⟩) fun vu s3 ⟨u, H3, I3, pu, eu, e3⟩ => ?_
  subst eu e3
  refine thn (hst.run pins s3 σ H3 (fun o H4 => o = some (-1) ∧ H4 = H3) I3 ⟨1, rfl, -1, rfl, rfl, rfl⟩) fun vs s4 ⟨o, H4, I4, ps, eo, e4⟩ => ?_
  subst eo e4
  have I5 : Inv X pins σ H4 { s4 with heap := s4.heap.push { cls := .type "slice", data := .fields #[vl, vu, vs] } } := I4.kept (t' := s4.toks) fun b ob q => Heap.get?_push_of_some _ q
  obtain ⟨its, r, ht, hz⟩ := I5.tuple hx
  have hlen := r.length
  cases pl
  cases pu
  obtain ⟨tk, rfl⟩ : ∃ tk, vs = .int (-1) tk := by cases ps; exact ⟨_, rfl⟩
  show wpAny (model X.prog X.w) X.A (subscriptTail e (.Slice none none (some (.UnaryOp .USub (.Constant (.int 1) k p1) p2)) p3) (.ref a) (.ref s4.heap.objs.size)) (EP X pins σ Q) X.xe { s4 with heap := s4.heap.push { cls := .type "slice", data := .fields #[.none, .none, .int (-1) tk] } }
  refine tail_any (ops := [.ref a, .ref s4.heap.objs.size]) ht.typeIs (PyProof.Rows.slot_tuple_getitem.lookup) ?_ (by with_unfolding_all rfl)
  refine getItem_tuple_rev ht (Heap.IsSliceOf.new _ .none .none (.int (-1) tk)) ?_ (by rw [List.size_toArray]; omega)
  refine ⟨.ref _, _, I5.laid (t' := s4.toks) (o := .tup xs.reverse) (fun b ob q => Heap.get?_push_of_some _ q) (Nat.le_refl _) ?_, rfl, q _ (I5.hok.fresh (Nat.le_refl _))⟩
  exact ⟨by rw [List.length_reverse]; exact hz, its.reverse, r.reverse, by simp only [List.toList_toArray]; exact IsTup.new _ _⟩
def gRev : Dat → (Dat → Prop) → Prop
  | .tup ds, P => P (.tup ds.reverse)
  | _, _ => False
theorem de_rev {e : Expr} {f : DE} {k : Nat} {p1 p2 p3 pos : Pos} (he : PE X e (LE X.K TT E f)) : PE X (.Subscript e (.Slice none none (some (.UnaryOp .USub (.Constant (.int 1) k p1) p2)) p3) pos) (LE X.K TT E (dUn gRev f)) := (pe_revT he).imp fun σ H Q ⟨ρ, n, P, R, r, q, k, x⟩ => ⟨ρ, n, _, R, r, q, fun d m v H1 z e s => by
  unfold gRev at z
  split at z
  · obtain ⟨a, xs, rfl, h1, l1, s1⟩ := s.tup_iff
    exact ⟨a, xs, rfl, h1, fun p hp => k _ m _ _ z (e.trans (.grow (.new hp))) (.newT hp (by rw [List.length_reverse]; exact l1) s1.reverse)⟩
  · exact z.elim, x⟩
/-! ### {}, {"a": e} -/
theorem de_dict0 {pos : Pos} : PE X (.Dict [] [] pos) (LE X.K TT E (dC (.dct [] []))) := pe_dnewK.imp fun σ H Q ⟨ρ, n, P, R, r, q, k, x⟩ p hp => k _ n _ _ q (.grow (.new hp)) (.dct (xs := []) (.inl upd_same) rfl .nil)
theorem de_dict1 {key : Str} {j : Nat} {p1 pos : Pos} {e : Expr} {d : Dat} (he : PE X e (tC (vOf d))) (fd : flatK d = true) (hs : ∀ n H, Sees X.K n H (vOf d) d) : PE X (.Dict [some (.Constant (.str key) j p1)] [e] pos) (LE X.K TT E (dC (.dct [.inr key] [d]))) := (pe_disp (pps_cons pe_str he pps_nil) rfl rfl (by simp) (by simp)).imp fun σ H Q ⟨ρ, n, P, R, r, q, k, x⟩ p hp => by
  refine ⟨upd_same, [(.inr key, vOf d)], rfl, by simp, ?_⟩
  rw [upd_upd]
  exact k _ n _ _ q (.grow (.new hp)) (.dct (ks := [.inr key]) (xs := [vOf d]) (.inl upd_same) rfl (.cons (hs n _) .nil))
end
end Aim

namespace Aim
open PySem PySem.Spec PyProof.Rows L2
open LamX (TabB Tabs CodeO)
/-! ### enumerate of a list or a tuple, from any number on -/
/-- what is walked: a sequence at a, told by sq; its iterators by iter -/
structure Src (P : Program) (w : World) (K : PySem.W.Frag) (a : Addr) (T : String) (sq : Hp → List V → Prop) (iter : Heap → Addr → Nat → Prop) (is : Heap → Array Value → Prop) : Prop where
  get : ∀ {X : Cx} {pins : List (Addr × Obj)} {σ : L2.St} {H : Hp} {s : Shared} {xs : List V}, X.prog = P → X.w = w → X.K = K → Inv X pins σ H s → sq H xs → ∃ its : List Value, Vals xs its ∧ is s.heap its.toArray ∧ xs.length ≤ sizeLine
  inj : ∀ {h : Heap} {xs ys : Array Value}, is h xs → is h ys → xs = ys
  cls : ∀ {h : Heap} {xs : Array Value}, is h xs → ∃ o, h.get? a = some o ∧ o.cls = .type T
  draws : ∀ {A : Around} (it : Addr) (xs : Array Value), A.handled = none → a ≠ it → Draws P w A it [it, a] xs.size (fun i v => xs[i]? = some v) (fun i h => iter h it i ∧ is h xs)
  fin : ∀ {A : Around} {s : Shared} {it : Addr} {i : Nat} {xs : Array Value} {Q E : Value → Shared → Prop}, A.handled = none → iter s.heap it i → is s.heap xs → xs.size ≤ i → (∀ h' e, Heap.ExtBut it s.heap h' → (∃ o, h'.get? e = some o ∧ o.cls = .type "StopIteration") → E (.ref e) { s with heap := h' }) → wpAny (model P w) A (Builtin.SmallTypes.nextOf (.ref it)) Q E s
  obj : ∀ {h : Heap} {it : Addr} {i : Nat}, iter h it i → ∃ o vs, h.get? it = some o ∧ o.cls ≠ .type T ∧ o.data = .fields vs
  keep : ∀ {h h' : Heap} {it : Addr} {i : Nat}, iter h it i → (∀ o, h.get? it = some o → h'.get? it = some o) → iter h' it i
def IteC (sq : Hp → List V → Prop) (k : Int) : It :=
  ⟨fun i H => ∃ (xs : List V) (x : V), sq H xs ∧ xs[i]? = some x, fun i H v H' => ∃ T x, v = .ref T ∧ H T = none ∧ H' = upd H T (.tup [.int (k + (i : Nat)), x]) ∧ ∀ xs, sq H xs → xs[i]? = some x, fun i H => ∃ xs : List V, sq H xs ∧ xs.length ≤ i⟩
section
variable {P : Program} {w : World} {K : PySem.W.Frag} {a : Addr} {T : String} {sq : Hp → List V → Prop} {iter : Heap → Addr → Nat → Prop} {is : Heap → Array Value → Prop}
theorem turn_enumC (S : Src P w K a T sq iter is) (hT : T ≠ "enumerate") (k : Int) {elts : List Expr} {kk : Nat} {tpos : Pos} (e it : Addr) :
    Turn P w K (.Tuple elts kk tpos) (IteC sq k) [e, it] e (fun i h => (∃ old, IsEnum h e it (k + (i : Nat)) old) ∧ iter h it i ∧ e ≠ it) where
  mem := by simp
  obj := fun i h st b hb => by
    obtain ⟨⟨old, he⟩, hi, _⟩ := st
    obtain ⟨o, vs, ho, _, hd⟩ := S.obj hi
    have e' : b = e ∨ b = it := by simpa using hb
    rcases e' with z | z
    · rw [z]; exact ⟨_, he, fun v q => nomatch q⟩
    · rw [z]; exact ⟨o, ho, fun v q => by rw [hd] at q; cases q⟩
  keep := fun i h h' st q => by
    obtain ⟨⟨old, he⟩, hi, hne⟩ := st
    exact ⟨⟨old, q e (by simp) _ he⟩, S.keep hi fun o z => q it (by simp) o z, hne⟩
  item := by
    intro X hP hw hK hc i pins s σ H E I hf st hg
    subst hP hw hK
    obtain ⟨⟨old, he⟩, hit, hne⟩ := st
    obtain ⟨xs, x, hq, hx⟩ := hg
    obtain ⟨its, rv, p, hz⟩ := S.get rfl rfl rfl I hq
    obtain ⟨u, hu, ru⟩ := rv.get hx
    have hel : e < s.heap.objs.size := Heap.lt_size he
    obtain ⟨oi, vi, hoi, hci, _⟩ := S.obj hit
    have hil : it < s.heap.objs.size := Heap.lt_size hoi
    obtain ⟨oa, hoa, hca⟩ := S.cls p
    have ai : a ≠ it := fun z => by rw [z, hoi] at hoa; cases hoa; exact hci hca
    have ae : a ≠ e := fun z => by rw [z, he] at hoa; cases hoa; exact hT (Value.type.inj hca).symm
    have D := S.draws (A := X.A.in1) it its.toArray (I.ok.hd hc) ai
    have hlt : i < its.toArray.size := by
      rw [List.size_toArray]
      exact (List.getElem?_eq_some_iff.mp hu).1
    refine wpAny_pyNext_enum_itemC D he ⟨hit, p⟩ hlt hne (by simp [hne, Ne.symm ae]) fun y h' tk hy ho st' hT' hsz hk => ?_
    have hy2 : y = u := by
      rw [List.getElem?_toArray, hu] at hy
      exact (Option.some.inj hy).symm
    subst hy2
    refine ⟨_, rfl, wpAny_letOwnedTupleGo_enum (s := { s with heap := h', toks := tk + 1 }) ho fun h'' he' sb => ?_⟩
    have hT2 := (sb.2 _ (Nat.ne_of_gt hel)).trans hT'
    have new : ObjOk X.prog X.w (upd H s.heap.objs.size (.tup [.int (k + (i : Nat)), x])) h'' s.heap.objs.size (.tup [.int (k + (i : Nat)), x]) :=
      ⟨by show 2 ≤ sizeLine; decide, [.int (k + (i : Nat)) tk, y], .cons ⟨_, rfl⟩ (.cons ru .nil), ⟨_, hT2, rfl, _, rfl⟩⟩
    have I1 : Inv X pins σ (upd H s.heap.objs.size (.tup [.int (k + (i : Nat)), x])) { s with heap := h'', toks := tk + 1 } :=
      I.turnedNew (ch := [e, it]) (fun b ob hb q => (sb.2 b (fun z => hb (by simp [z]))).trans (hk b ob (fun z => hb (by simp [z])) (fun z => hb (by simp [z])) q)) hf (Nat.le_refl _) new
    refine ⟨.ref s.heap.objs.size, _, I1, rfl, ⟨_, x, rfl, I.hok.fresh (Nat.le_refl _), rfl, fun ys hys => ?_⟩, ⟨⟨y, ?_⟩, S.keep st'.1 fun o q => (sb.2 it (Ne.symm hne)).trans q, hne⟩, fun b hb => ?_⟩
    · obtain ⟨its2, rv2, p2, _⟩ := S.get rfl rfl rfl I hys
      have := S.inj p2 p
      have e3 : its2 = its := by simpa using congrArg Array.toList this
      rw [e3] at rv2
      rw [rv2.inj rv]
      exact hx
    · have e1 : k + ((i + 1 : Nat) : Int) = k + (i : Nat) + 1 := by push_cast; omega
      rw [e1]
      exact he'
    · have e' : b = e ∨ b = it := by simpa using hb
      have hb' : b < s.heap.objs.size := by
        rcases e' with z | z
        · rw [z]; exact hel
        · rw [z]; exact hil
      rw [upd_ne (Nat.ne_of_lt hb')]
      exact (hf b hb).1
  done := by
    intro X hP hw hK hc i pins s σ H E I hf st hg
    subst hP hw hK
    obtain ⟨⟨old, he⟩, hit, hne⟩ := st
    obtain ⟨xs, hq, hx⟩ := hg
    obtain ⟨its, rv, p, hz⟩ := S.get rfl rfl rfl I hq
    obtain ⟨f0, f1, f2, f3, f4, f5⟩ := hf it (by simp)
    have hl := rv.length
    obtain ⟨oi, vi, hoi, hci, _⟩ := S.obj hit
    obtain ⟨oa, hoa, hca⟩ := S.cls p
    have ai : a ≠ it := fun z => by rw [z, hoi] at hoa; cases hoa; exact hci hca
    have D0 := S.draws (A := X.A.in1) it its.toArray (I.ok.hd hc) ai
    have D : Draws X.prog X.w X.A.in1 it [it, a] i (fun _ _ => True) (fun j h => j = i ∧ iter h it i ∧ is h its.toArray) :=
      ⟨fun j h z => let ⟨o, _, q, _⟩ := S.obj z.2.1; ⟨o, q⟩, fun j h h' z q => ⟨z.1, D0.frame i h h' z.2 q⟩, fun j s' Q E lt z => absurd z.1 (Nat.ne_of_lt lt), fun s' Q E z hE => S.fin (I.ok.hd hc) z.2.1 z.2.2 (by simp only [List.size_toArray]; omega) hE⟩
    exact wpAny_pyNext_enum_endD D he ⟨rfl, hit, p⟩ fun h' eb => ⟨rfl, I.turned (t' := s.toks) (fun b o hb q => eb b o hb q) f0 f1 f3 f4 f5⟩
  self := fun A i s Q E st h => by
    obtain ⟨⟨_, he⟩, _⟩ := st
    exact wpAny_pyIter_enum he h
end
theorem src_list {P : Program} {w : World} {K : PySem.W.Frag} (a : Addr) : Src P w K a "list" (fun H xs => SqL K H a xs) (fun h it i => h.IsListIter it a i) (fun h xs => h.IsList a xs) where
  get := fun hP hw hK I hq => by
    subst hP hw hK
    obtain ⟨its, rv, p, z⟩ := I.list hq
    exact ⟨its, rv, p.isList, z⟩
  inj := fun h h' => by
    obtain ⟨o, e, _, n, d⟩ := h
    obtain ⟨o', e', _, n', d'⟩ := h'
    rw [e] at e'; cases e'
    rw [d] at d'
    injection d'
  cls := fun h => let ⟨o, e, c, _⟩ := h; ⟨o, e, c⟩
  draws := fun it xs hh hne => Draws.list hh it a hne xs
  fin := fun hh hit p hx hE => wpAny_nextOf_list_end hh hit p (by simp [hx]) hE
  obj := fun ⟨o, ho, hc, hd⟩ => ⟨o, _, ho, by rw [hc]; decide, hd⟩
  keep := fun h q => h.at q
theorem src_tup {P : Program} {w : World} {K : PySem.W.Frag} (a : Addr) : Src P w K a "tuple" (fun H xs => SqT K H a xs) (fun h it i => h.IsTupleIter it a i) (fun h xs => h.IsTuple a xs) where
  get := fun hP hw hK I hq => by
    subst hP hw hK
    obtain ⟨its, rv, p, z⟩ := I.tuple hq
    exact ⟨its, rv, p, z⟩
  inj := fun h h' => by
    obtain ⟨o, e, _, n, d⟩ := h
    obtain ⟨o', e', _, n', d'⟩ := h'
    rw [e] at e'; cases e'
    rw [d] at d'
    injection d'
  cls := fun h => let ⟨o, e, c, _⟩ := h; ⟨o, e, c⟩
  draws := fun it xs hh hne => Draws.tuple hh it a hne xs
  fin := fun hh hit p hx hE => wpAny_nextOf_tuple_end hh hit p (by simp [hx]) hE
  obj := fun ⟨o, ho, hc, hd⟩ => ⟨o, _, ho, by rw [hc]; decide, hd⟩
  keep := fun h q => h.at q

set_option maxHeartbeats 1000000 in
theorem meets_enumerate_new1 {v : Value} {o : Obj} {H : Heap → Prop} (B : Begins v o H) :
    Meets (Builtin.«enumerate.__new__» ⟨[.type "enumerate", v], []⟩) (fun _ R s => H s.heap ∧
      R (.ok (.ret (.ref (s.heap.push o).objs.size))) { s with heap := (s.heap.push o).push { cls := .type "enumerate", data := .fields #[.none, .bool false, .ref s.heap.objs.size, rawInt 0, .none, .none] } }) :=
  .of_wp fun prog w A R s h => by
    obtain ⟨hp, g, d, tk, os⟩ := s; obtain ⟨h1, h⟩ := h
    have hsub := sub_enumerate
    have q1 : ∀ {A' : Around} {E : Value → Shared → Prop} {Q : Value → Shared → Prop}, Q (.ref hp.objs.size) ⟨hp.push o, g, d, tk, os⟩ → wpAny (model prog w) A' (pyIter v) Q E ⟨hp, g, d, tk, os⟩ :=
      fun q => B.iter prog w _ _ ⟨hp, g, d, tk, os⟩ _ h1 q
    wp_walk using q1
    refine wpAny_stack_any fun st => wpAny_pure ?_
    split
    · rename_i c _ _ _ _ _
      cases (c == Value.type "enumerate")
      · wp_walk using q1
        exact ⟨_, rfl, h⟩
      · wp_walk using q1
        exact ⟨_, rfl, h⟩
    · wp_walk using q1
      exact ⟨_, rfl, h⟩
section
variable {prog : Program} {w : World} {A : Around} {E : Value → Shared → Prop} {s : Shared}
theorem enum_begins1 {v : Value} {o : Obj} {H : Heap → Prop} {Q : Value → Shared → Prop} (B : Begins v o H) (h1 : H s.heap)
    (h : ∀ h', IsEnum h' (s.heap.objs.size + 1) s.heap.objs.size 0 .none → h'.get? s.heap.objs.size = some o → h'.objs.size = s.heap.objs.size + 2 →
      (∀ b o, s.heap.get? b = some o → h'.get? b = some o) → Q (.ref (s.heap.objs.size + 1)) { s with heap := h' }) :
    wpAny (model prog w) A (call (.type "enumerate") [v]) Q E s := by
  refine callType_new F.called_enumerate (by decide) (F.typeCall_enumerate_1 _) (F.newCall_enumerate_1 _) (fun obj => F.args_object_init_2 obj _) F.entry_enumerate_new
    (meets_enumerate_new1 B) ⟨h1, ?_⟩
  have hz : (s.heap.push o).objs.size = s.heap.objs.size + 1 := Heap.size_push ..
  show _ ∧ _
  rw [hz]
  have he : IsEnum ((s.heap.push o).push { cls := .type "enumerate", data := .fields #[.none, .bool false, .ref s.heap.objs.size, rawInt 0, .none, .none] }) (s.heap.objs.size + 1) s.heap.objs.size 0 .none := by
    have := Heap.get?_push_size (s.heap.push o) (o := { cls := .type "enumerate", data := .fields #[.none, .bool false, .ref s.heap.objs.size, rawInt 0, .none, .none] }) rfl
    rw [hz] at this; exact this
  refine ⟨⟨_, he, rfl⟩, h _ he (Heap.get?_push_of_some _ (Heap.get?_push_size _ B.free)) (by rw [Heap.size_push, hz]) fun b o x => Heap.get?_push_of_some _ (Heap.get?_push_of_some _ x)⟩
end
/-- what enumerate is given: a list or a tuple, a start -/
def enK : List V → (Addr → Int → Prop) → Prop
  | [.ref a], P => P a 0
  | [.ref a, .int j], P => P a j ∧ -(2 ^ 63) ≤ j ∧ j < 2 ^ 63
  | _, _ => False
def iEnumK (K : PySem.W.Frag) (ta : TA) : TI := fun σ H R => ta σ H fun vs H1 => enK vs fun a j => (∃ xs, SqL K H1 a xs ∧ R (IteC (fun H => SqL K H a) j) H1) ∨ ∃ xs, SqT K H1 a xs ∧ R (IteC (fun H => SqT K H a) j) H1
theorem enumK_end {X : Cx} {tg : Expr} {elts : List Expr} {kk : Nat} {tpos : Pos} {pins : List (Addr × Obj)} {σ : L2.St} {H1 : Hp} {s1 : Shared} {h' : Heap} {R : It → Hp → Prop} {E : Value → Shared → Prop} {a : Addr} {T : String} {sq : Hp → List V → Prop} {iter : Heap → Addr → Nat → Prop} {is : Heap → Array Value → Prop}
    (S : Src X.prog X.w X.K a T sq iter is) (hT : T ≠ "enumerate") (j : Int) (I1 : Inv X pins σ H1 s1) (he : IsEnum h' (s1.heap.objs.size + 1) s1.heap.objs.size j .none) (hit : iter h' s1.heap.objs.size 0) (hk : ∀ b o, s1.heap.get? b = some o → h'.get? b = some o) (q : R (IteC sq j) H1) :
    wpAny (model X.prog X.w) X.A (pyIter (.ref (s1.heap.objs.size + 1))) (PIE X pins σ (.Tuple elts kk tpos) R) E { s1 with heap := h' } := by
  refine wpAny_pyIter_enum he ?_
  have I2 : Inv X pins σ H1 { s1 with heap := h' } := I1.kept (t' := s1.toks) hk
  refine ⟨s1.heap.objs.size + 1, [s1.heap.objs.size + 1, s1.heap.objs.size], _, _, H1, rfl, I2, turn_enumC S hT j (s1.heap.objs.size + 1) s1.heap.objs.size, ⟨⟨.none, by simpa using he⟩, hit, Nat.succ_ne_self _⟩, fun b hb => ?_, q⟩
  have e' : b = s1.heap.objs.size + 1 ∨ b = s1.heap.objs.size := by simpa using hb
  have hle : s1.heap.objs.size ≤ b := by
    rcases e' with z | z
    · rw [z]; exact Nat.le_add_right _ _
    · rw [z]; exact Nat.le_refl _
  exact I1.fpOk hle (I1.hok.fresh hle)
theorem pi_enumK {X : Cx} {e : Expr} {es : List Expr} {ta : TA} {p pos tpos : Pos} {elts : List Expr} {kk : Nat} (hg : Gl X "enumerate") (hm : X.mg "enumerate" = none) (ha : PA X (e :: es) ta) (hs : starEach (e :: es) X.env = (false, eval e X.env) :: starEach es X.env := by rfl) (hp : (backTo pos (starEach es X.env)).any (·.1) = false := by rfl) :
    PI X (.Tuple elts kk tpos) (.Call (.Name "enumerate" p) (e :: es) [] pos) (iEnumK X.K ta) := by
  refine ⟨fun pins s σ H R I h => ?_⟩
  refine Call_ (ld_blt I hg hm boot_enumerate (PyProof.Rows.callWith_type1 (thn (ha.run pos pins s σ H _ I h) fun us s1 ⟨vs, H1, I1, r1, q1⟩ => ?_) hs hp))
  replace q1 : enK vs _ := q1
  unfold enK at q1
  split at q1
  · rename_i a
    cases r1 with
    | cons r rr =>
      cases rr
      cases r
      rcases q1 with ⟨xs, hq, q⟩ | ⟨xs, hq, q⟩
      · obtain ⟨its, rv, p', hz⟩ := I1.list hq
        exact enum_begins1 (begins_list a its.toArray) p'.isList fun h' he hit hsz hk => enumK_end (tg := e) (src_list a) (by decide) 0 I1 he ⟨_, hit, rfl, rfl⟩ hk q
      · obtain ⟨its, rv, p', hz⟩ := I1.tuple hq
        exact enum_begins1 (begins_tuple a its.toArray) p' fun h' he hit hsz hk => enumK_end (tg := e) (src_tup a) (by decide) 0 I1 he ⟨_, hit, rfl, rfl⟩ hk q
  · rename_i a j
    cases r1 with
    | cons r rr =>
      cases rr with
      | cons r2 rr =>
        cases rr
        cases r
        obtain ⟨t, rfl⟩ := r2
        obtain ⟨q1, b0, b1⟩ := q1
        rcases q1 with ⟨xs, hq, q⟩ | ⟨xs, hq, q⟩
        · obtain ⟨its, rv, p', hz⟩ := I1.list hq
          exact enum_begins (begins_list a its.toArray) p'.isList b0 b1 fun h' he hit hsz hk => enumK_end (tg := e) (src_list a) (by decide) j I1 he ⟨_, hit, rfl, rfl⟩ hk q
        · obtain ⟨its, rv, p', hz⟩ := I1.tuple hq
          exact enum_begins (begins_tuple a its.toArray) p' b0 b1 fun h' he hit hsz hk => enumK_end (tg := e) (src_tup a) (by decide) j I1 he ⟨_, hit, rfl, rfl⟩ hk q
  · exact q1.elim
/-! ### by data -/
section
variable {X : Cx} {TT : List (Addr × Str)} {E : XK} {K : PySem.W.Frag}
def enD : List Dat → (List Dat → Prop) → Prop
  | [.lst xs], P => P (pairs (numL 0 xs.length) xs)
  | [.tup xs], P => P (pairs (numL 0 xs.length) xs)
  | [.lst xs, .int j], P => P (pairs (numL j xs.length) xs) ∧ -(2 ^ 63) ≤ j ∧ j < 2 ^ 63
  | [.tup xs, .int j], P => P (pairs (numL j xs.length) xs) ∧ -(2 ^ 63) ≤ j ∧ j < 2 ^ 63
  | _, _ => False
def diEnumK (f : DA) : DI := fun ρ n P R => f ρ n (fun ds m => enD ds fun xs => P xs m) R
theorem items_enumC {sq : Hp → List V → Prop} {j : Int} {xs : List V} {ds : List Dat} {m : Nat} {H : Hp} (h1 : ∀ {n' H'}, Fra TT m H n' H' → sq H' xs) (s1 : SeesL K m H xs ds) (l : xs.length ≤ sizeLine) : Items K TT (IteC sq j) m H (pairs (numL j ds.length) ds) := by
  have hn : (pairs (numL j ds.length) ds).length = xs.length := by rw [pairs_len, numL_len, s1.length]; omega
  refine ⟨by rw [hn]; exact l, fun i n' H' hi g => ?_, fun n' H' g => ⟨xs, h1 g, by rw [hn]; exact Nat.le_refl _⟩, fun i n' H' x H2 d hd g y => ?_⟩
  · rw [hn] at hi
    exact ⟨xs, xs[i], h1 g, by simp [hi]⟩
  obtain ⟨hi, _⟩ := List.getElem?_eq_some_iff.mp hd
  obtain ⟨T, x', e1, e2, e3, e5⟩ := y
  have e5 := e5 xs (h1 g)
  obtain ⟨d1, d2, f1, f2, rfl⟩ := pairs_get hd
  obtain ⟨d2', g2, t2⟩ := s1.get e5
  rw [f2] at g2
  cases g2
  rw [numL_get _ _ _ (by rw [s1.length] at hn; omega)] at f1
  cases f1
  refine ⟨by rw [e3]; exact .new e2, fun G gG q => pair_sees e2 e1 e3 q (.int _) (t2.mono gG)⟩
theorem di_enumK {tg e : Expr} {fr : DA} (h : PI X tg e (iEnumK X.K (LA X.K TT E fr))) : PI X tg e (LI X.K TT E (diEnumK fr)) := h.imp fun σ H R ⟨ρ, n, P, Rx, r, f, k, x⟩ => ⟨ρ, n, _, Rx, r, f, fun ds m vs H1 q e s => by
  unfold enD at q
  split at q
  · cases s with
    | cons s1 s =>
      cases s
      obtain ⟨p1, xs, rfl, a1, a2, a3⟩ := s1.lst_iff
      exact .inl ⟨xs, a1, k _ m _ H1 q e (items_enumC (fun g => g.sqL a1) a3 a2)⟩
  · cases s with
    | cons s1 s =>
      cases s
      obtain ⟨p1, xs, rfl, a1, a2, a3⟩ := s1.tup_iff
      exact .inr ⟨xs, a1, k _ m _ H1 q e (items_enumC (fun g => g.sqT a1) a3 a2)⟩
  · cases s with
    | cons s1 s =>
      cases s with
      | cons s2 s =>
        cases s
        cases s2
        obtain ⟨p1, xs, rfl, a1, a2, a3⟩ := s1.lst_iff
        exact ⟨.inl ⟨xs, a1, k _ m _ H1 q.1 e (items_enumC (fun g => g.sqL a1) a3 a2)⟩, q.2⟩
  · cases s with
    | cons s1 s =>
      cases s with
      | cons s2 s =>
        cases s
        cases s2
        obtain ⟨p1, xs, rfl, a1, a2, a3⟩ := s1.tup_iff
        exact ⟨.inr ⟨xs, a1, k _ m _ H1 q.1 e (items_enumC (fun g => g.sqT a1) a3 a2)⟩, q.2⟩
  · exact q.elim, x⟩
/-- the signs of a text -/
def signs (x : Str) : List Dat := x.cps.toList.map fun c => .str ⟨#[c]⟩
def strOf : Dat → (List Dat → Prop) → Prop
  | .str x, P => P (signs x)
  | _, _ => False
def diStr (f : DE) : DI := fun ρ n P R => f ρ n (fun d m => strOf d fun ds => P ds m) R
theorem di_str {tg a : Expr} {fa : DE} (h : PE X a (LE X.K TT E fa)) : PI X tg a (LI X.K TT E (diStr fa)) := (pi_str h).imp fun σ H R ⟨ρ, n, P, Rx, r, f, k, x⟩ => ⟨ρ, n, _, Rx, r, f, fun d m v H1 q e s => by
  unfold strOf at q
  split at q
  · rename_i z
    cases s with
    | str _ b =>
      have hl : (signs z).length = z.cps.size := by simp [signs]
      refine ⟨z, rfl, k _ m _ H1 q e ⟨by rw [hl]; exact b.1, fun i n' H' hi g => by rw [hl] at hi; exact hi, fun n' H' g => by rw [hl]; exact Nat.le_refl _, fun i n' H' y H2 d hd g w => ?_⟩⟩
      obtain ⟨e1, c, e2, rfl⟩ := w
      subst e1
      refine ⟨.refl _, fun G gG _ => ?_⟩
      have e3 : (signs z)[i]? = some (.str ⟨#[c]⟩) := by
        unfold signs
        rw [List.getElem?_map, Array.getElem?_toList, e2]
        rfl
      rw [hd] at e3
      cases e3
      obtain ⟨h1, h2⟩ := Array.getElem?_eq_some_iff.mp e2
      have h3 := Array.all_eq_true.mp b.2 i h1
      rw [h2] at h3
      exact .str _ ⟨by show 1 ≤ sizeLine; decide, by simpa using h3⟩
  · exact q.elim, x⟩
end
end Aim

namespace Aim
open PySem PySem.Spec PyProof.Rows L2
/-! ### texts joined and split -/
theorem strB_iff {x : Str} : StrB x ↔ x.length ≤ sizeLine ∧ ∀ c ∈ TL.tl x, c < 0x110000 := by
  unfold StrB
  refine and_congr_right fun _ => ?_
  rw [← Array.all_toList, List.all_eq_true]
  exact ⟨fun h c hc => of_decide_eq_true (h c hc), fun h c hc => decide_eq_true (h c hc)⟩
theorem joinL_mem {y : List Nat} {c : Nat} : ∀ {parts : List (List Nat)}, c ∈ TL.joinL y parts → c ∈ y ∨ ∃ p ∈ parts, c ∈ p
  | [], h => by cases h
  | [p], h => .inr ⟨p, by simp, h⟩
  | p :: q :: r, h => by
    rcases List.mem_append.mp (show c ∈ p ++ (y ++ TL.joinL y (q :: r)) from h) with h | h
    · exact .inr ⟨p, by simp, h⟩
    · rcases List.mem_append.mp h with h | h
      · exact .inl h
      · rcases joinL_mem h with h | ⟨p', hp, h⟩
        · exact .inl h
        · exact .inr ⟨p', List.mem_cons_of_mem _ hp, h⟩
theorem mem_joinL {y : List Nat} {c : Nat} {p : List Nat} (hc : c ∈ p) : ∀ {parts : List (List Nat)}, p ∈ parts → c ∈ TL.joinL y parts
  | [], h => by cases h
  | [q], h => by rw [List.mem_singleton.mp h] at hc; exact hc
  | q :: q' :: r, h => by
    show c ∈ q ++ (y ++ TL.joinL y (q' :: r))
    rcases List.mem_cons.mp h with h | h
    · exact List.mem_append.mpr (.inl (h ▸ hc))
    · exact List.mem_append.mpr (.inr (List.mem_append.mpr (.inr (mem_joinL hc h))))
/-- the signs of the parts are the text's -/
theorem split_signs {x y z : Str} (h : z ∈ Txt.split x y) {c : Nat} (hc : c ∈ TL.tl z) : c ∈ TL.tl x := by
  rw [← StrLaws.join_split x y, TL.tl_join]
  exact mem_joinL hc (List.mem_map_of_mem h)
theorem strB_split {x y : Str} (h : StrB x) : ∀ z ∈ Txt.split x y, StrB z := fun z hz => by
  rw [strB_iff] at h ⊢
  exact ⟨Nat.le_trans (part_short hz) h.1, fun c hc => h.2 c (split_signs hz hc)⟩
theorem strB_join {a : Str} {bs : List Str} (ha : StrB a) (hb : ∀ b ∈ bs, StrB b) (hl : (bs.map (·.length)).sum + bs.length * a.length ≤ 16777216) : StrB (Txt.join a bs) := by
  rw [strB_iff, TL.join_eq]
  refine ⟨Nat.le_trans (StrLaws.join_length_le a bs) (by show _ ≤ sizeLine; rw [show sizeLine = 16777216 by decide +kernel]; exact hl), fun c hc => ?_⟩
  rw [TL.tl_join] at hc
  rcases joinL_mem hc with h | ⟨p, hp, h⟩
  · exact (strB_iff.mp ha).2 c h
  · obtain ⟨b, hb', rfl⟩ := List.mem_map.mp hp
    exact (strB_iff.mp (hb b hb')).2 c h
theorem sum_le {bs : List Str} {k : Nat} (h : ∀ b ∈ bs, b.length ≤ k) : (bs.map (·.length)).sum ≤ bs.length * k := by
  induction bs with
  | nil => simp
  | cons b r ih =>
    have h1 := h b (by simp)
    have h2 := ih fun z hz => h z (by simp [hz])
    simp only [List.map_cons, List.sum_cons, List.length_cons, Nat.add_mul, Nat.one_mul]
    omega
theorem split_two {x y : Str} : (Txt.split x y).length ≤ x.length + 2 := split_le x y
end Aim

namespace Aim
open PySem PySem.Spec PyProof.Rows L2
open LamX (TabB Tabs CodeO)
/-! ### calls by keywords -/
/-- a def's promise, its text beside it -/
structure DfW (P : Program) (w : World) (K : PySem.W.Frag) (mg : Str → Option Value) (base : Heap) (G : Bool) (k : Nat) (x : Str) (st : Stmt) (ps : List Str) (sp : Sp) : Prop where
  ex : ∃ (f : Addr) (fd : FuncData), L2.Fun K x x st f fd ∧ Rn P w K mg base G k f fd ps sp ∧ mg x = some (.ref f) ∧ L2.Binds K fd ps []
/-- .. called with all its parameters by name -/
structure DfK (P : Program) (w : World) (K : PySem.W.Frag) (mg : Str → Option Value) (base : Heap) (G : Bool) (k : Nat) (x : Str) (ks : List Str) (sp : Sp) : Prop where
  ex : ∃ (f : Addr) (fd : FuncData) (ps : List Str), Rn P w K mg base G k f fd ps sp ∧ mg x = some (.ref f) ∧ PySem.W.keepIn K (.ref f) = true ∧ ∀ (s : Shared) (us : List Value), us.length = ps.length → BindsTo s fd ⟨[], ks.zip us⟩ (ps.zip us)
section
variable {P : Program} {w : World} {K : PySem.W.Frag} {mg : Str → Option Value} {base : Heap} {TT : List (Addr × Str)} {G : Bool} {k : Nat} {x : Str} {st : Stmt} {N ps : List Str} {sp : DSp}
theorem DfW.df {sp : Sp} (d : DfW P w K mg base G k x st ps sp) : Df P w K mg base G k x sp := by
  obtain ⟨f, fd, F, R, hm, hb⟩ := d.ex
  exact ⟨f, fd, ps, R, hm, F.kp, hb⟩
theorem DfW.kw {sp : Sp} {ks : List Str} (d : DfW P w K mg base G k x st ps sp) (h : ∀ (kV doc pm : Value) (an : Option Addr) (cdv ct : Value) (us : List Value), us.length = ps.length → bindArgs (PySem.W.fnOf x x (defArgs st) (defBody st) (defScope st) .none kV doc pm an cdv ct) ⟨[], ks.zip us⟩ = pure (ps.zip us)) : DfK P w K mg base G k x ks sp := by
  obtain ⟨f, fd, F, R, hm, hb⟩ := d.ex
  refine ⟨f, fd, ps, R, hm, F.kp, ?_⟩
  obtain ⟨oc, od, kV, doc, pm, an, cdv, ct, osl, rfl, lk, hcd⟩ := F.ex
  exact fun s us hl => .of_eq (h kV doc pm an cdv ct us hl)
theorem dat_okW (F : Has K mg x st) (hb : ∀ f fd, L2.Fun K x x st f fd → L2.Binds K fd ps []) (S : FnScope N ps (defScope st))
    (body : ∀ (f : Addr) (cdv : Value) (A : Around) (outer : List Env) (s : Shared) (H : Hp) (E : XK), Room k (A.deeper (envOfC x (defScope st) s.heap.objs.size f cdv)) → (G = true → A.guards = some []) →
      ∃ g, PSs (cxOf (L2.CX P w) P w K mg base N x (defScope st) f cdv A outer s H E) (defBody st) (LS K TT E g) ∧ ∀ ds n PP R, sp ds n PP R → ds.length = ps.length ∧ g { nx := fun _ m => PP .non m, rt := PP, ex := R } (dstart N ds) n)
    (hl : ∀ ds n PP R, sp ds n PP R → ds.length = ps.length) : DfW P w K mg base G (k + 1) x st ps (LSp K TT sp) := by
  obtain ⟨f, fd, F, hm⟩ := F.ex
  have hbb := hb f fd F
  obtain ⟨oc, od, kV, doc, pm, an, cdv, ct, osl, e, lk, hcd⟩ := id F.ex
  have len : ∀ vs H Q E, LSp K TT sp vs H Q E → vs.length = ps.length := fun vs H Q E h => by
    obtain ⟨ds, n, PP, R, s, h, _⟩ := h
    rw [s.length]
    exact hl _ _ _ _ h
  refine ⟨f, fd, F, ⟨len, ?_⟩, hm, hbb⟩
  subst e
  exact fun {A fr s H args us vs Q E} hr hg e0 b r q => LamX.run_ofS lk hcd S hr e0 b r (len _ _ _ _ q) fun hr' => by
    obtain ⟨g, hp, z⟩ := body f cdv A fr s H E hr' hg
    obtain ⟨ds, n, PP, R, se, h, kQ, kE⟩ := q
    exact ⟨_, hp, ends_of se (z ds n PP R h).2 kQ kE⟩
end
section
variable {X : Cx} {TT : List (Addr × Str)} {E : XK} {k j : Nat} {G : Bool} {x : Str} {sp : DSp} {kws : List Keyword} {fr : DA} {p pos kpos : Pos} {ks : List Str} {f : DE} {e : Expr} {nm : Option Str}
theorem dk_nil : PK X [] (LA X.K TT E dNil) := ⟨fun pos pins s σ H Q I h => (da_nil (X := X)).run pos pins s σ H Q I h⟩
theorem _root_.L2.PK.imp {e : List Keyword} {t t' : TA} (h : PK X e t) (i : ∀ σ H Q, t' σ H Q → t σ H Q) : PK X e t' := ⟨fun p pins s σ H Q I q => h.run p pins s σ H Q I (i _ _ _ q)⟩
theorem dk_cons (he : PE X e (LE X.K TT E f)) (hr : PK X kws (LA X.K TT E fr)) : PK X (⟨nm, e, kpos⟩ :: kws) (LA X.K TT E (dCons f fr)) := (pk_cons he hr).imp fun σ H Q ⟨ρ, n, P, R, rl, f, k, x⟩ =>
  ⟨ρ, n, _, R, rl, f, fun d m v H1 q1 e1 s1 => ⟨ρ, m, _, R, rl.fre e1, q1, fun ds j vs H2 q2 e2 s2 => k (d :: ds) j (v :: vs) H2 q2 (e1.trans e2) (.cons (s1.mono e2.toFra) s2), x.mono e1⟩, x⟩
theorem de_callK (d : DfK X.prog X.w X.K X.mg X.base G k x ks (LSp X.K TT sp)) (hr : Room j X.A) (hk : k ≤ j) (hg : G = true → X.A.guards = some []) (gl : Gl X x) (hx : Passes (L2.CX X.prog X.w) X E) (hkw : PK X kws (LA X.K TT E fr))
    (hall : (backToKw pos (keywordEach kws X.env)).all (·.1.isSome) = true := by rfl) (hks : (backToKw pos (keywordEach kws X.env)).filterMap (·.1) = ks := by rfl) (hdb : (x == ("__debug__" : Str)) = false := by decide)
    (hpl : ((backTo pos (starEach [] X.env)).any (·.1) || (backToKw pos (keywordEach kws X.env)).any (·.1.isNone)) = false := by rfl) : PE X (.Call (.Name x p) [] kws pos) (LE X.K TT E (dCall sp fr)) := by
  obtain ⟨f, fd, ps, F, hm, hkp, hb⟩ := d.ex
  refine ⟨fun pins s σ H Q I h => wpAny_Call_Name_kw (ld_glob I gl hm ?_ hdb)⟩
  refine PySem.W.callWith_KW0 (h₀ := X.base) I.ok.mod.kin hkp hall ?_ hpl
  refine thn (hkw.run pos pins s σ H _ I (lsp_go h)) fun ws s2 ⟨zs, H2, I2, rz, q2⟩ => ⟨I2.kIn, ?_⟩
  rw [hks]
  have hl : zs.length = ps.length := F.len _ _ _ _ q2
  refine wpAny_call (codeAny_mono (F.run (s := s2) (args := ⟨[], ks.zip ws⟩) (hr.mono hk) hg (env0_cutO I2.env0) (hb s2 ws (by rw [← rz.length]; exact hl)) rz q2) fun y s' hq => ?_)
  match y, hq with
  | .error e, hq => exact hx pins σ H2 s2 e s' I2 (cx_glueO I2.hok I2.env0.frf hq)
  | .ok (.ret u), hq => exact I2.after (ce_glueO I2.hok I2.env0.frf hq)
end
end Aim

namespace Aim
open PySem PySem.Spec PyProof.Rows L2
open LamX (TabB Tabs CodeO)
/-! ### the ending: the law's def at the head's heap -/
/-- a law's promise -/
def spLaw : DSp := fun ds n Q _ => ∃ ns : List Int, ds = [.scr ns] ∧ ns.length ≤ 63 ∧ (∀ z ∈ ns, Builtin.Int.intBits z ≤ 1048576) ∧ n = 0 ∧ ∀ m, Q (.bl true) m
theorem fun_uniq {K : PySem.W.Frag} {x q : Str} {st : Stmt} {f : Addr} {fd fd' : FuncData} (F : L2.Fun K x q st f fd) (F' : L2.Fun K x q st f fd') : fd = fd' := by
  obtain ⟨oc, od, kV, doc, pm, an, cdv, ct, osl, e, lk, hcd⟩ := F.ex
  obtain ⟨oc', od', kV', doc', pm', an', cdv', ct', osl', e', lk', hcd'⟩ := F'.ex
  rw [lk] at lk'
  subst e
  subst e'
  have z := Option.some.inj lk'
  have z := congrArg Obj.data z
  injection z
section
variable {P : Program} {w : World} {K : PySem.W.Frag} {mg : Str → Option Value} {h : Heap} {TT : List (Addr × Str)}
theorem at_law {l : PySem.W.OpenLaw} {k : Nat} {x : Str} {st : Stmt} {fa : Addr} {cs : List (Addr × Addr)} (F : Has K mg "law" st) (hfa : mg "law" = some (.ref fa)) (hTT : ∀ p ∈ TT, ∃ c, (c, p.1) ∈ cs)
    (hT : ∀ p ∈ cs, h.get? p.2 = some tab0 ∧ K.lookup p.2 = none ∧ PySem.W.CodeHd h p.1 p.2)
    (hb : ∀ (kV doc pm : Value) (an : Option Addr) (cdv ct : Value) (u : Value), bindArgs (PySem.W.fnOf "law" "law" (defArgs st) (defBody st) (defScope st) .none kV doc pm an cdv ct) ⟨[u], []⟩ = pure [(x, u)])
    (D : ∀ base : Heap, (∀ p ∈ cs, TabB base mg p.1 p.2) → DfW l.prog w K mg base true k "law" st [x] (LSp K TT spLaw)) : AtLaw l w K k 63 x mg fa h := by
  obtain ⟨f, fd, F, hm⟩ := F.ex
  have e : f = fa := by
    have := hm.symm.trans hfa
    cases this
    rfl
  subst e
  refine ⟨fd, cs, LSp K TT spLaw, hT, ?_, ?_, ?_⟩
  · obtain ⟨oc, od, kV, doc, pm, an, cdv, ct, osl, rfl, lk, hcd⟩ := F.ex
    exact fun s u => .of_eq (hb kV doc pm an cdv ct u)
  · intro H a ns hl hbits ht hs
    refine ⟨[.scr ns], 0, fun d _ => d = .bl true, R0, .cons (.scr hs) .nil, ⟨ns, rfl, hl, hbits, rfl, fun _ => rfl⟩, fun d m v H' e _ s => ?_, .zero fun p hp => ?_⟩
    · subst e
      cases s
      rfl
    · obtain ⟨c, hc⟩ := hTT p hp
      exact LamX.TabS.nil (ht _ hc)
  · intro base _ _ TB
    obtain ⟨f', fd', F', R, hm', _⟩ := (D base TB).ex
    have e : f' = f := by
      have := hm'.symm.trans hm
      cases this
      rfl
    subst e
    rw [fun_uniq F F']
    exact R
/-- a def with a lambda: its table -/
theorem lam_tab {q : Program} {x : Str} {d : DefRec} {f c Pt : Addr} {st : Stmt} {oc kV doc pm ct cc : Value} {od an cdd : Option Addr} {osl cs : Array (Option Value)} {vs : Array Value}
    (tabs : ∀ (x : Str) (d : DefRec) (c P : Addr), (recsOf q).find? (fun e => e.name == x) = some d → PySem.W.tabIn K x = some (c, P) → PySem.W.CodeHd h c P ∧ h.get? P = some tab0)
    (r : (recsOf q).find? (fun e => e.name == x) = some d) (a : PySem.W.nsIn K mainGlobals x = some (some (.ref f))) (lR : K.lookup f = some ⟨oc, od, .func (PySem.W.fnOf x x (defArgs st) (defBody st) (defScope st) .none kV doc pm an (.ref c) ct), osl⟩)
    (lc : K.lookup c = some ⟨cc, cdd, .fields vs, cs⟩) (e11 : (vs[11]? : Option Value) = some (.ref Pt)) (nP : K.lookup Pt = none) : h.get? Pt = some tab0 ∧ K.lookup Pt = none ∧ PySem.W.CodeHd h c Pt := by
  have tb : PySem.W.tabIn K x = some (c, Pt) := by
    unfold PySem.W.tabIn
    rw [a]
    dsimp only
    rw [lR]
    dsimp only [PySem.W.fnOf]
    rw [lc]
    dsimp only
    rw [e11]
  obtain ⟨h1, h2⟩ := tabs _ _ _ _ r tb
  exact ⟨h2, nP, h1⟩
theorem hu_at {P : Addr} {q : Str} (nd : (TT.map Prod.fst).Nodup) (h : (P, q) ∈ TT) : ∀ p ∈ TT, p.1 = P → p.2 = q := by
  induction TT with
  | nil => cases h
  | cons t r ih =>
    rw [List.map_cons, List.nodup_cons] at nd
    intro p hp e
    rcases List.mem_cons.mp h with z | z
    · subst z
      rcases List.mem_cons.mp hp with y | y
      · rw [y]
      · exact absurd (by have := List.mem_map_of_mem (f := Prod.fst) y; rw [e] at this; exact this) nd.1
    · rcases List.mem_cons.mp hp with y | y
      · subst y
        exact absurd (by have := List.mem_map_of_mem (f := Prod.fst) z; rw [e]; exact this) nd.1
      · exact ih nd.2 z p y e
/-! ### a module's constants -/
theorem gc_int (X : K.In h) (G : h.Ns mainGlobals mg) {x : Str} {i : Int} {t : Tok} (a : PySem.W.nsIn K mainGlobals x = some (some (.int i t))) : GC K mg x (.int i) := ⟨.int i, _, PySem.W.mg_of X G a, ⟨_, rfl⟩, fun _ _ => .int i⟩
theorem gc_str (X : K.In h) (G : h.Ns mainGlobals mg) {x y : Str} {t : Tok} (a : PySem.W.nsIn K mainGlobals x = some (some (.str y t))) (b : StrB y) : GC K mg x (.str y) := ⟨.str y, _, PySem.W.mg_of X G a, ⟨_, rfl⟩, fun _ _ => .str y b⟩
/-- a tuple of texts -/
theorem gc_strs (X : K.In h) (G : h.Ns mainGlobals mg) {x : Str} {ad : Addr} {d : Option Addr} {n : Nat} {sl : Array (Option Value)} {ys : List Str} {its : Array Value} (a : PySem.W.nsIn K mainGlobals x = some (some (.ref ad)))
    (l : K.lookup ad = some ⟨.type "tuple", d, .seq its n, sl⟩) (hv : Vals (ys.map V.str) its.toList) (hl : ys.length ≤ 1000) (b : ∀ y ∈ ys, StrB y) : GC K mg x (.tup (ys.map Dat.str)) := by
  refine ⟨.ref ad, _, PySem.W.mg_of X G a, rfl, fun m H => ?_⟩
  have e := hv.length
  simp only [List.length_map, Array.length_toList] at e
  have sz : sizeLine = 16777216 := by decide +kernel
  exact .tup (.inr ⟨_, its, n, l, rfl, rfl, by omega, hv⟩) (by rw [List.length_map]; omega) (.ofStrs b)
end
end Aim

namespace Aim
open PySem PySem.Spec PyProof.Rows L2
open LamX (TabB)
def top (i : Nat) : Stmt := PySem.Challenge.pw_aimedpresses_k12_runs_as_texts.main.body.getD i (.Pass ⟨0, 0, 0, 0⟩)
section
variable {P : Program} {w : World} {K : PySem.W.Frag} {mg : Str → Option Value} {base : Heap} {TT : List (Addr × Str)}
/-! ### draws -/
theorem at_four {a b c d i m : Int} (i0 : 0 ≤ i) (i1 : i < 4) (ha : 0 < a ∧ a ≤ m) (hb : 0 < b ∧ b ≤ m) (hc : 0 < c ∧ c ≤ m) (hd : 0 < d ∧ d ≤ m) : ∃ z : Int, atI [Dat.int a, Dat.int b, Dat.int c, Dat.int d] i = some (.int z) ∧ 0 < z ∧ z ≤ m := by
  have h : i = 0 ∨ i = 1 ∨ i = 2 ∨ i = 3 := by omega
  rcases h with h | h | h | h <;> subst h
  · exact ⟨a, rfl, ha⟩
  · exact ⟨b, rfl, hb⟩
  · exact ⟨c, rfl, hc⟩
  · exact ⟨d, rfl, hd⟩
theorem log2_62 {z : Int} (z0 : 0 < z) (z1 : z < 2 ^ 300) : z.natAbs.log2 < 9000 := by
  have h : z.natAbs < 2 ^ 300 := by omega
  exact Nat.lt_trans (Nat.log2_lt (by omega) |>.mpr h) (by decide)
theorem mulW_of {i j : Int} (hi : i.natAbs < 2 ^ 200) (hj : j.natAbs < 2 ^ 200) : CMulA i j := .inr (wide_mul hi hj (by decide) (by decide) (by decide))
/-- n draws are made: one number from 0 below z -/
def spTake : DSp := fun ds n Q _ => ∃ z : Int, ds = [.pot, .int z] ∧ n < 1000000 ∧ 0 < z ∧ z < 2 ^ 300 ∧ ∀ r : Int, 0 ≤ r → r < z → Q (.int r) (n + 1)
theorem sc__law_take : FnScope ["_law_pot_here", "_law_size", "_law_turn", "_law_prime", "_law_mixed", "_law_spread", "_law_digit"] ["_law_pot_here", "_law_size"] (defScope (top 23)) := ⟨rfl, rfl, rfl, by decide +kernel, rfl, by decide +kernel, by decide +kernel⟩
theorem ok_take {G : Bool} (F : Has K mg "_law_take" (top 23)) (T : Blt mg) : Df P w K mg base G 1 "_law_take" (LSp K TT spTake) := by
  refine dat_ok F (fun f fd F => F.binds (fun _ _ _ _ _ _ us hl => match us, hl with | [_, _], _ => rfl)) sc__law_take (fun f cdv A outer s H E hr hG => ⟨_, (dss_cons (ds_if (dt_cmp op_gt (od_IB _) (de_ixPot (pe_ix ix_pot (de_var (pv 0)) de_int (fun _ _ => rfl))) de_int (nomark _)) (dss_cons (ds_set (i := 6) sc__law_take.nd rfl (Or.inl rfl) (de_op op_mod (od_IC _) (de_cb cd_int (pe_callTy call_intA rfl T.n_int boot_int (da_cons (de_ixPot (pe_ix ix_pot (de_var (pv 0)) de_int (fun _ _ => rfl))) da_nil))) (de_var (pv 1))))
      (dss_cons (ds_setPot (ps_asg (de_op op_fdivW (od_IC _) (de_cb cd_int (pe_callTy call_intA rfl T.n_int boot_int (da_cons (de_ixPot (pe_ix ix_pot (de_var (pv 0)) de_int (fun _ _ => rfl))) da_nil))) (de_var (pv 1))) (pg_sub (de_var (pv 0)) de_int set_pot)))
      (dss_one (ds_ret (de_var (pv 6)))))) dss_nil)
      (dss_cons (ds_set (i := 2) sc__law_take.nd rfl (Or.inl rfl) (de_op op_addAny od_add (de_ixPot (pe_ix ix_pot (de_var (pv 0)) de_int (fun _ _ => rfl))) de_int))
      (dss_cons (ds_setPot (ps_asg (de_var (pv 2)) (pg_sub (de_var (pv 0)) de_int set_pot)))
      (dss_cons (ds_set (i := 3) sc__law_take.nd rfl (Or.inl rfl) (de_ix ix_seq od_ix (de_lst (da_cons de_int (da_cons de_int (da_cons de_int (da_cons de_int da_nil))))) (de_op op_mod (od_IC _) (de_cb cd_int (pe_callTy call_intA rfl T.n_int boot_int (da_cons (de_var (pv 2)) da_nil))) de_int) (fun _ _ => rfl)))
      (dss_cons (ds_set (i := 4) sc__law_take.nd rfl (Or.inl rfl) (de_op op_mod (od_IC _) (de_cb cd_int (pe_callTy call_intA rfl T.n_int boot_int (da_cons (de_op op_powW (od_IC _) (de_cb cd_int (pe_callTy call_intA rfl T.n_int boot_int (da_cons (de_op op_addAny od_add (de_op op_addAny od_add (de_ixPot (pe_ix ix_pot (de_var (pv 0)) de_int (fun _ _ => rfl))) (de_op op_mulA od_mulA (de_op op_mulA od_mulA de_int (de_var (pv 2))) (de_var (pv 2)))) (de_op op_mulA od_mulA de_int (de_var (pv 2)))) da_nil))) de_int) da_nil))) (de_var (pv 3))))
      (dss_cons (ds_set (i := 5) sc__law_take.nd rfl (Or.inl rfl) (de_op op_mod (od_IC _) (de_cb cd_int (pe_callTy call_intA rfl T.n_int boot_int (da_cons (de_op op_mulA od_mulA (de_var (pv 4)) (de_op op_addAny od_add (de_op op_mod (od_IC _) (de_cb cd_int (pe_callTy call_intA rfl T.n_int boot_int (da_cons (de_var (pv 4)) da_nil))) de_int) (de_op op_mulA od_mulA de_int (de_var (pv 2))))) da_nil))) de_int))
      (dss_one (ds_ret (de_op op_mod (od_IC _) (de_cb cd_int (pe_callTy call_intA rfl T.n_int boot_int (da_cons (de_op op_fdivW (od_IC _) (de_var (pv 5)) de_int) da_nil))) (de_var (pv 1))))))))))), fun ds n PP R h => ?_⟩) (fun ds n PP R h => ?_)
  · obtain ⟨z, rfl, hn, z0, z1, k⟩ := h
    refine ⟨rfl, ?_⟩
    refine Or.inl ⟨rfl, fun d d0 => ?_⟩
    refine ite2 (fun c => ?_) (fun c => ?_)
    · refine Or.inl ⟨rfl, fun d2 e2 => ?_⟩
      refine ⟨z0, ?_⟩
      refine Or.inl ⟨rfl, fun d3 e3 => ?_⟩
      refine ⟨⟨z0, log2_62 z0 z1⟩, ?_⟩
      refine Or.inl ⟨rfl, Int.ediv_nonneg e3 (Int.le_of_lt z0), ?_⟩
      exact k (d2 % z) (Int.emod_nonneg _ (by omega)) (Int.emod_lt_of_pos _ z0)
    · refine Or.inr (Or.inr ⟨rfl, fun t t0 t1 => ?_⟩)
      refine Or.inr ⟨rfl, by omega, by omega, ?_⟩
      obtain ⟨pr, hpr, pr0, pr1⟩ := at_four (i := (t + 1) % 4) (a := 2305843009213693951) (b := 2305843009213693921) (c := 2305843009213693907) (d := 67280421310721) (Int.emod_nonneg _ (by decide)) (Int.emod_lt_of_pos _ (by decide)) (m := 2 ^ 61) (by decide) (by decide) (by decide) (by decide)
      refine ⟨by show 4 ≤ sizeLine; decide, ?_⟩
      refine ⟨(by decide : (0 : Int) < 4), ?_⟩
      show optD (atI _ _) _
      rw [hpr]
      refine Or.inr (Or.inl ⟨rfl, fun m m0 m1 => ?_⟩)
      have tt : (t + 1) * (t + 1) ≤ 1000001 * 1000001 := Int.mul_le_mul (by omega) (by omega) (by omega) (by omega)
      have tt0 : 0 ≤ (t + 1) * (t + 1) := Int.mul_nonneg (by omega) (by omega)
      refine ⟨mulW_of (by decide) (by omega), ?_⟩
      have e : 7368787 * (t + 1) * (t + 1) = 7368787 * ((t + 1) * (t + 1)) := Int.mul_assoc _ _ _
      refine ⟨mulW_of (by omega) (by omega), ?_⟩
      refine ⟨mulW_of (by decide) (by omega), ?_⟩
      refine ⟨⟨by decide, ?_⟩, ?_⟩
      · have b : Builtin.Int.intBits (m + 7368787 * (t + 1) * (t + 1) + 104729 * (t + 1)) ≤ 70 := by
          refine PySem.intBits_le_iff.mpr ?_
          rw [e]
          generalize (t + 1) * (t + 1) = q at tt tt0
          omega
        show (Builtin.Int.intBits (m + 7368787 * (t + 1) * (t + 1) + 104729 * (t + 1)) : Int) * 3 ≤ 2 ^ 27
        omega
      refine ⟨(by omega : (0 : Int) < pr), ?_⟩
      generalize hmx : (m + 7368787 * (t + 1) * (t + 1) + 104729 * (t + 1)) ^ Int.toNat 3 % pr = mx
      have mx0 : 0 ≤ mx := by rw [← hmx]; exact Int.emod_nonneg _ (by omega)
      have mx1 : mx < 2 ^ 61 := by rw [← hmx]; exact Int.lt_of_lt_of_le (Int.emod_lt_of_pos _ (by omega)) pr1
      refine ⟨(by decide : (0 : Int) < 10009), ?_⟩
      refine ⟨mulW_of (by decide) (by omega), ?_⟩
      refine ⟨mulW_of (by omega) (by omega), ?_⟩
      refine ⟨(by decide : (0 : Int) < 2305843009213693669), ?_⟩
      refine ⟨⟨by decide, by decide⟩, ?_⟩
      refine ⟨z0, ?_⟩
      exact k _ (Int.emod_nonneg _ (by omega)) (Int.emod_lt_of_pos _ z0)
  · obtain ⟨z, rfl, _⟩ := h
    rfl
/-! ### of, cells, pot -/
def spOf : DSp := fun ds n Q _ => ∃ xs : List Dat, (ds = [.pot, .lst xs] ∨ ds = [.pot, .tup xs]) ∧ n < 1000000 ∧ 0 < xs.length ∧ xs.length ≤ 1000000 ∧ ∀ v ∈ xs, Q v (n + 1)
theorem atI_of {xs : List Dat} {r : Int} (r0 : 0 ≤ r) (r1 : r < (xs.length : Int)) : ∃ v ∈ xs, atI xs r = some v := by
  obtain ⟨j, e⟩ : ∃ j : Nat, r = (j : Int) := ⟨r.toNat, by omega⟩
  subst e
  have h : j < xs.length := by omega
  refine ⟨xs[j], List.getElem_mem h, ?_⟩
  unfold atI ixN
  rw [if_pos (by omega), if_pos (by omega)]
  show xs[(j : Int).toNat]? = _
  rw [Int.toNat_natCast, List.getElem?_eq_getElem h]
theorem sc__law_of : FnScope ["_law_pot_here", "_law_options"] ["_law_pot_here", "_law_options"] (defScope (top 24)) := ⟨rfl, rfl, rfl, by decide +kernel, rfl, by decide +kernel, by decide +kernel⟩
theorem ok_of {G : Bool} (F : Has K mg "_law_of" (top 24)) (T : Blt mg) (D__law_take : Df P w K mg base false 1 "_law_take" (LSp K TT spTake)) : Df P w K mg base G 2 "_law_of" (LSp K TT spOf) := by
  refine dat_ok F (fun f fd F => F.binds (fun _ _ _ _ _ _ us hl => match us, hl with | [_, _], _ => rfl)) sc__law_of (fun f cdv A outer s H E hr hG => ⟨_, (dss_one (ds_ret (de_ix ix_seq od_ix (de_var (pv 1)) (de_call D__law_take hr (by first | decide | omega) (by first | exact hG | (intro z; cases z)) rfl passL (da_cons (de_var (pv 0)) (da_cons (de_cb cd_len (pe_callB call_len rfl T.n_len boot_len (da_cons (de_var (pv 1)) da_nil))) da_nil))) (fun _ _ => rfl)))), fun ds n PP R h => ?_⟩) (fun ds n PP R h => ?_)
  · obtain ⟨xs, hd, hn, h0, h1, k⟩ := h
    rcases hd with rfl | rfl
    · refine ⟨rfl, ?_⟩
      refine ⟨(xs.length : Nat), rfl, hn, by omega, by omega, fun r r0 r1 => ?_⟩
      obtain ⟨v, hv, ha⟩ := atI_of r0 r1
      show optD (atI xs r) _
      rw [ha]
      exact k v hv
    · refine ⟨rfl, ?_⟩
      refine ⟨(xs.length : Nat), rfl, hn, by omega, by omega, fun r r0 r1 => ?_⟩
      obtain ⟨v, hv, ha⟩ := atI_of r0 r1
      show optD (atI xs r) _
      rw [ha]
      exact k v hv
  · obtain ⟨xs, hd, _⟩ := h
    rcases hd with rfl | rfl <;> rfl
/-- the places of the script: at most m numbers -/
def spCells : DSp := fun ds n Q _ => ∃ (ns : List Int) (m : Int), ds = [.scr ns, .int m] ∧ ns.length ≤ 63 ∧ m ≤ 60 ∧ ∀ k : Nat, k ≤ 60 → (k : Int) ≤ m ∨ k ≤ 1 → Q (.lst (numL 0 k)) n
theorem max_min (m l : Int) (h : l ≤ 63) (hm : m ≤ 60) : ∃ c : Int, (fun i j : Int => if j > i then j else i) 1 ((fun i j : Int => if j < i then j else i) m l) = c ∧ 1 ≤ c ∧ c ≤ 60 ∧ (c ≤ m ∨ c ≤ 1) := by
  refine ⟨_, rfl, ?_⟩
  show 1 ≤ (if (if l < m then l else m) > 1 then (if l < m then l else m) else 1) ∧ _ ∧ _
  dsimp only
  split <;> split <;> omega
theorem sc__law_cells : FnScope ["_law_script", "_law_most"] ["_law_script", "_law_most"] (defScope (top 25)) := ⟨rfl, rfl, rfl, by decide +kernel, rfl, by decide +kernel, by decide +kernel⟩
theorem ok_cells {G : Bool} (F : Has K mg "_law_cells" (top 25)) (T : Blt mg) : Df P w K mg base G 1 "_law_cells" (LSp K TT spCells) := by
  refine dat_ok F (fun f fd F => F.binds (fun _ _ _ _ _ _ us hl => match us, hl with | [_, _], _ => rfl)) sc__law_cells (fun f cdv A outer s H E hr hG => ⟨_, (dss_one (ds_ret (de_fr (L2.PE.imp (pe_listRg rfl rfl T.n_list (prg_1 rfl T.n_range (de_cb (cd_2I _) (pe_callB (call_max2 rfl) rfl T.n_max boot_max (da_cons de_int (da_cons (de_cb (cd_2I _) (pe_callB (call_min2 rfl) rfl T.n_min boot_min (da_cons (de_var (pv 1)) (da_cons (de_cb cd_len (pe_callB call_len rfl T.n_len boot_len (da_cons (de_var (pv 0)) da_nil))) da_nil)))) da_nil)))))) fun _ _ _ h => lf_rg1 h)))), fun ds n PP R h => ?_⟩) (fun ds n PP R h => ?_)
  · obtain ⟨ns, m, rfl, hn, hm, k⟩ := h
    refine ⟨rfl, ?_⟩
    obtain ⟨c, hc, c1, c2, c3⟩ := max_min m ns.length (by omega) hm
    show (-1000000 ≤ (fun i j : Int => if j > i then j else i) 1 ((fun i j : Int => if j < i then j else i) m (ns.length : Nat)) ∧ _) ∧ _
    rw [hc]
    refine ⟨by omega, ?_⟩
    exact k c.toNat (by omega) (by omega)
  · obtain ⟨ns, m, rfl, _⟩ := h
    rfl
/-- the pot of a place -/
def spPot : DSp := fun ds n Q _ => ∃ (ns : List Int) (j : Int), ds = [.scr ns, .int j] ∧ 0 ≤ j ∧ j < 63 ∧ (∀ z ∈ ns, Builtin.Int.intBits z ≤ 1048576) ∧ ns.length ≤ 63 ∧ Q .pot n
theorem sc__law_pot : FnScope ["_law_script", "_law_place", "_law_cell", "_law_digits"] ["_law_script", "_law_place"] (defScope (top 22)) := ⟨rfl, rfl, rfl, by decide +kernel, rfl, by decide +kernel, by decide +kernel⟩
theorem ok_pot {G : Bool} (F : Has K mg "_law_pot" (top 22)) (T : Blt mg) : Df P w K mg base G 1 "_law_pot" (LSp K TT spPot) := by
  refine dat_ok F (fun f fd F => F.binds (fun _ _ _ _ _ _ us hl => match us, hl with | [_, _], _ => rfl)) sc__law_pot (fun f cdv A outer s H E hr hG => ⟨_, (dss_cut (ds_set (i := 2) sc__law_pot.nd rfl (Or.inl rfl) (de_if (dt_cmp op_lt (od_IB _) (de_var (pv 1)) (de_cb cd_len (pe_callB call_len rfl T.n_len boot_len (da_cons (de_var (pv 0)) da_nil))) (nomark _)) (de_ix ix_seq od_ix (de_var (pv 0)) (de_var (pv 1)) (fun _ _ => rfl)) de_int))
      (dss_cut (ds_set (i := 3) sc__law_pot.nd rfl (Or.inl rfl) (de_op op_mulA od_mulA (de_op op_mod (od_IC _) (de_cb cd_int (pe_callTy call_intA rfl T.n_int boot_int (da_cons (de_cb cd_abs (pe_callB call_abs rfl T.n_abs boot_abs (da_cons (de_var (pv 2)) da_nil))) da_nil))) (de_op op_powW (od_IC _) (de_op op_powW (od_IC _) de_int de_int) de_int)) (de_cb cd_int (pe_callTy call_intA rfl T.n_int boot_int (da_cons (de_cmp op_ge (od_IB _) (de_cb cd_abs (pe_callB call_abs rfl T.n_abs boot_abs (da_cons (de_var (pv 2)) da_nil))) (de_op op_powW (od_IC _) de_int de_int) (nomark _)) da_nil)))))
      (dss_one (ds_ret (de_newPot (pe_pot (pe_lst (da_cons (de_var (pv 3)) (da_cons (de_op op_mod (od_IC _) (de_cb cd_int (pe_callTy call_intA rfl T.n_int boot_int (da_cons (de_op op_addAny od_add (de_op op_mulA od_mulA (de_var (pv 2)) de_int) (de_op op_mulA od_mulA de_int (de_op op_powW (od_IC _) (de_op op_addAny od_add (de_var (pv 1)) de_int) de_int))) da_nil))) de_int) (da_cons de_int da_nil)))))))))), fun ds n PP R h => ?_⟩) (fun ds n PP R h => ?_)
  · obtain ⟨ns, j, rfl, j0, j1, hb, hl, k⟩ := h
    refine ⟨rfl, ?_⟩
    refine ⟨fun ρ' m => ∃ c : Int, Builtin.Int.intBits c ≤ 1048576 ∧ ρ' = [.val (.scr ns), .val (.int j), .val (.int c), .no] ∧ m = n, ?_, ?_⟩
    · refine ite2 (fun c => ?_) (fun c => ?_)
      · have hj : j < ns.length := of_decide_eq_true c
        obtain ⟨i, e⟩ : ∃ i : Nat, j = (i : Int) := ⟨j.toNat, by omega⟩
        have hi : i < ns.length := by omega
        have ha : atI ns j = some ns[i] := by
          unfold atI ixN
          rw [if_pos (by omega), if_pos (by omega)]
          show ns[j.toNat]? = _
          rw [show j.toNat = i by omega, List.getElem?_eq_getElem hi]
        show optD (atI ns j) _
        rw [ha]
        exact ⟨_, hb _ (List.getElem_mem hi), rfl, rfl⟩
      · exact ⟨0, by decide, rfl, rfl⟩
    · rintro ρ' m ⟨c, hc, rfl, rfl⟩
      refine ⟨fun ρ' m' => ∃ d : Int, 0 ≤ d ∧ ρ' = [.val (.scr ns), .val (.int j), .val (.int c), .val (.int d)] ∧ m' = m, ?_, ?_⟩
      · refine ⟨⟨by decide, by decide⟩, ⟨by decide, by decide +kernel⟩, (by decide +kernel : (0 : Int) < (10 ^ Int.toNat 60) ^ Int.toNat 5), ⟨by decide, by decide⟩, ?_⟩
        have p1 : (0 : Int) < (10 ^ Int.toNat 60) ^ Int.toNat 5 := by decide +kernel
        have a0 : 0 ≤ (if c < 0 then -c else c) := by split <;> omega
        have m0 : 0 ≤ (if c < 0 then -c else c) % (10 ^ Int.toNat 60) ^ Int.toNat 5 := Int.emod_nonneg _ (Int.ne_of_gt p1)
        have m1 : (if c < 0 then -c else c) % (10 ^ Int.toNat 60) ^ Int.toNat 5 < (10 ^ Int.toNat 60) ^ Int.toNat 5 := Int.emod_lt_of_pos _ p1
        have b0 : ∀ b : Bool, 0 ≤ (if b then (1 : Int) else 0) ∧ (if b then (1 : Int) else 0) ≤ 1 := fun b => by cases b <;> decide
        have hb2 := b0 (decide ((10 : Int) ^ Int.toNat 18 ≤ (if c < 0 then -c else c)))
        refine ⟨?_, ⟨_, Int.mul_nonneg m0 hb2.1, rfl, rfl⟩⟩
        refine .inr <| wide_mul (a := 1200) (b := 10) ?_ ?_ (by decide) (by decide) (by decide)
        · have h2 : (10 ^ Int.toNat 60 : Int) ^ Int.toNat 5 ≤ 2 ^ 1200 := by decide +kernel
          have h3 : (2 : Int) ^ 1200 = ((2 ^ 1200 : Nat) : Int) := by norm_cast
          rw [h3] at h2
          generalize (2 ^ 1200 : Nat) = B at h2 ⊢
          omega
        · generalize (if (decide ((10 : Int) ^ Int.toNat 18 ≤ (if c < 0 then -c else c))) then (1 : Int) else 0) = B at hb2 ⊢
          have : (2 : Nat) ^ 10 = 1024 := by decide
          omega
      · rintro ρ' m' ⟨d, d0, rfl, rfl⟩
        have bj : Builtin.Int.intBits (j + 1) ≤ 70 := PySem.intBits_le_iff.mpr (by omega)
        refine ⟨.inl (.inr ⟨by omega, by omega⟩), ⟨by omega, by omega⟩, .inl (.inl ⟨by omega, by omega⟩), (by decide : (0 : Int) < 2305843009213693921), ⟨?_, k⟩⟩
        have h1 := Int.emod_nonneg (c * 48271 + 1299709 * (j + 1) ^ Int.toNat 2) (show (2305843009213693921 : Int) ≠ 0 by decide)
        have h2 := Int.emod_lt_of_pos (c * 48271 + 1299709 * (j + 1) ^ Int.toNat 2) (show (0 : Int) < 2305843009213693921 by decide)
        exact ⟨d0, by omega, by omega, by omega, by omega⟩
  · obtain ⟨ns, m, rfl, _⟩ := h
    rfl
/-! ### letters, words, names -/
theorem strB_dec {x : Str} (h : (decide (x.length ≤ sizeLine) && x.cps.all (fun c => decide (c < 0x110000))) = true) : StrB x := by
  rw [Bool.and_eq_true] at h
  exact ⟨of_decide_eq_true h.1, h.2⟩
/-- a letter from a to z -/
def isLet (c : Nat) : Prop := 97 ≤ c ∧ c ≤ 122
def abc : Str := "abcdefghijklmnopqrstuvwxyz"
theorem abc_at {i : Int} (h0 : 0 ≤ i) (h1 : i < 26) : atI abc.cps.toList i = some (97 + i.toNat) := by
  obtain ⟨j, e⟩ : ∃ j : Nat, i = (j : Int) := ⟨i.toNat, by omega⟩
  subst e
  have h : ∀ j < 26, atI abc.cps.toList ((j : Nat) : Int) = some (97 + j) := by decide +kernel
  exact h j (by omega)
def spLetter : DSp := fun ds n Q _ => ∃ i : Int, ds = [.int i] ∧ 0 ≤ i ∧ i < 26 ∧ ∀ c, isLet c → Q (.str ⟨#[c]⟩) n
theorem sc__law_letter : FnScope ["_law_at"] ["_law_at"] (defScope (top 26)) := ⟨rfl, rfl, rfl, by decide +kernel, rfl, by decide +kernel, by decide +kernel⟩
theorem ok_letter {G : Bool} (F : Has K mg "_law_letter" (top 26)) (T : Blt mg) : Df P w K mg base G 1 "_law_letter" (LSp K TT spLetter) := by
  refine dat_ok F (fun f fd F => F.binds (fun _ _ _ _ _ _ us hl => match us, hl with | [_], _ => rfl)) sc__law_letter (fun f cdv A outer s H E hr hG => ⟨_, (dss_one (ds_ret (de_ix ix_seq od_ix de_str (de_var (pv 0)) (fun _ _ => rfl)))), fun ds n PP R h => ?_⟩) (fun ds n PP R h => ?_)
  · obtain ⟨i, rfl, i0, i1, k⟩ := h
    refine ⟨rfl, ?_⟩
    show optD (atI abc.cps.toList i) _
    rw [abc_at i0 i1]
    exact k _ ⟨by omega, by omega⟩
  · obtain ⟨i, rfl, _⟩ := h
    rfl
/-- a name: one to eight letters -/
def isNm (x : Str) : Prop := 1 ≤ x.cps.size ∧ x.cps.size ≤ 8 ∧ ∀ c ∈ x.cps.toList, isLet c
def lineWords : List Str := ["tick", "look", "forget", "down", "up", "announce", "update", "way", "shows", "room", "part", "places", "put", "take", "swap", "push", "yes", "other", "at", "calm", "grace"]
theorem lineWords_nm : ∀ x ∈ lineWords, isNm x := by
  have h : lineWords.all (fun x => decide (1 ≤ x.cps.size) && decide (x.cps.size ≤ 8) && x.cps.toList.all fun c => decide (97 ≤ c) && decide (c ≤ 122)) = true := by decide +kernel
  intro x hx
  have z := List.all_eq_true.mp h x hx
  simp only [Bool.and_eq_true, decide_eq_true_eq, List.all_eq_true] at z
  exact ⟨z.1.1, z.1.2, z.2⟩
def spWord : DSp := fun ds n Q _ => ds = [.pot] ∧ n < 1000000 ∧ ∀ x, isNm x → Q (.str x) (n + 1)
theorem sc__law_word_of_lines : FnScope ["_law_pot_here", "_law_some", "_law_more"] ["_law_pot_here"] (defScope (top 27)) := ⟨rfl, rfl, rfl, by decide +kernel, rfl, by decide +kernel, by decide +kernel⟩
theorem ok_word {G : Bool} (F : Has K mg "_law_word_of_lines" (top 27)) (T : Blt mg) (D__law_of : Df P w K mg base false 2 "_law_of" (LSp K TT spOf)) : Df P w K mg base G 3 "_law_word_of_lines" (LSp K TT spWord) := by
  refine dat_ok F (fun f fd F => F.binds (fun _ _ _ _ _ _ us hl => match us, hl with | [_], _ => rfl)) sc__law_word_of_lines (fun f cdv A outer s H E hr hG => ⟨_, (dss_cons (ds_set (i := 1) sc__law_word_of_lines.nd rfl (Or.inl rfl) (de_lst (da_cons de_str (da_cons de_str (da_cons de_str (da_cons de_str (da_cons de_str (da_cons de_str (da_cons de_str (da_cons de_str (da_cons de_str (da_cons de_str da_nil))))))))))))
      (dss_cons (ds_set (i := 2) sc__law_word_of_lines.nd rfl (Or.inl rfl) (de_lst (da_cons de_str (da_cons de_str (da_cons de_str (da_cons de_str (da_cons de_str (da_cons de_str (da_cons de_str (da_cons de_str (da_cons de_str (da_cons de_str (da_cons de_str da_nil)))))))))))))
      (dss_one (ds_ret (de_call D__law_of hr (by first | decide | omega) (by first | exact hG | (intro z; cases z)) rfl passL (da_cons (de_var (pv 0)) (da_cons (de_op op_addAny od_add (de_var (pv 1)) (de_var (pv 2))) da_nil))))))), fun ds n PP R h => ?_⟩) (fun ds n PP R h => ?_)
  · obtain ⟨rfl, hn, k⟩ := h
    refine ⟨rfl, by show 10 ≤ sizeLine; decide, by show 11 ≤ sizeLine; decide, by show 10 + 11 ≤ sizeLine; decide, lineWords.map Dat.str, .inl rfl, hn, by show 0 < 21; decide, by show 21 ≤ 1000000; decide, fun v hv => ?_⟩
    obtain ⟨x, hx, e⟩ := List.mem_map.mp hv
    subst e
    exact k x (lineWords_nm x hx)
  · obtain ⟨rfl, _⟩ := h
    rfl
end
end Aim

namespace Aim
open PySem PySem.Spec PyProof.Rows L2 RZ
open LamX (TabB)
section
variable {P : Program} {w : World} {K : PySem.W.Frag} {mg : Str → Option Value} {base : Heap} {TT : List (Addr × Str)}
theorem cmp_flat {d : Dat} (h : flatK d = true) : cmpOk d := by
  cases d <;> first | exact ⟨rfl, by show PyData.depth _ ≤ 60; simp [py, PyData.depth]⟩ | cases h
theorem numL_int : ∀ {lo : Int} {k : Nat} {i : Nat} {d : Dat}, (numL lo k)[i]? = some d → ∃ j : Int, d = .int j ∧ lo ≤ j ∧ j < lo + k
  | lo, 0, i, d, h => by simp [numL] at h
  | lo, k + 1, 0, d, h => by
    simp [numL] at h
    exact ⟨lo, h.symm, by omega, by push_cast; omega⟩
  | lo, k + 1, i + 1, d, h => by
    obtain ⟨j, e, h1, h2⟩ := numL_int (lo := lo + 1) (k := k) (i := i) (d := d) (by simpa [numL] using h)
    exact ⟨j, e, by omega, by push_cast; omega⟩
theorem isNm_cons {x : Str} {c : Nat} (h : ∀ a ∈ x.cps.toList, isLet a) (hc : isLet c) : ∀ a ∈ (x ++ ⟨#[c]⟩ : Str).cps.toList, isLet a := fun a ha => by
  have e : (x ++ ⟨#[c]⟩ : Str).cps = x.cps ++ #[c] := rfl
  rw [e] at ha
  simp only [Array.toList_append, List.mem_append, List.mem_singleton] at ha
  rcases ha with ha | ha
  · exact h a ha
  · rw [ha]
    exact hc
/-- a drawn name: at most ten draws -/
def spName : DSp := fun ds n Q _ => ds = [.pot] ∧ n < 900000 ∧ ∀ x m, isNm x → n ≤ m → m ≤ n + 10 → Q (.str x) m
theorem sc__law_name : FnScope ["_law_pot_here", "_law_found", "_law_turn"] ["_law_pot_here"] (defScope (top 28)) := ⟨rfl, rfl, rfl, by decide +kernel, rfl, by decide +kernel, by decide +kernel⟩
theorem ok_name {G : Bool} (F : Has K mg "_law_name" (top 28)) (T : Blt mg) (D__law_take : Df P w K mg base false 1 "_law_take" (LSp K TT spTake)) (D__law_of : Df P w K mg base false 2 "_law_of" (LSp K TT spOf)) (D__law_letter : Df P w K mg base false 1 "_law_letter" (LSp K TT spLetter)) (D__law_word_of_lines : Df P w K mg base false 3 "_law_word_of_lines" (LSp K TT spWord)) : Df P w K mg base G 4 "_law_name" (LSp K TT spName) := by
  refine dat_ok F (fun f fd F => F.binds (fun _ _ _ _ _ _ us hl => match us, hl with | [_], _ => rfl)) sc__law_name (fun f cdv A outer s H E hr hG => ⟨_, (dss_cons (ds_set (i := 1) sc__law_name.nd rfl (Or.inl rfl) de_str)
      (dss_cut (ds_if (dt_cmp (op_eqDD hr.units) od_eq (de_call D__law_take hr (by first | decide | omega) (by first | exact hG | (intro z; cases z)) rfl passL (da_cons (de_var (pv 0)) (da_cons de_int da_nil))) de_int (nomark _)) (dss_one (ds_ret (de_call D__law_word_of_lines hr (by first | decide | omega) (by first | exact hG | (intro z; cases z)) rfl passL (da_cons (de_var (pv 0)) da_nil)))) dss_nil)
      (dss_cons (ds_forI PassesOwn.never rfl (di_rng1 (pi_range1 rfl T.n_range (da_cons (de_call D__law_of hr (by first | decide | omega) (by first | exact hG | (intro z; cases z)) rfl passL (da_cons (de_var (pv 0)) (da_cons (de_lst (da_cons de_int (da_cons de_int (da_cons de_int (da_cons de_int (da_cons de_int (da_cons de_int da_nil))))))) da_nil))) da_nil))) (dg_name (pg_name (i := 2) sc__law_name.nd rfl (Or.inl rfl) (Or.inl rfl))) (dss_one (ds_set (i := 1) sc__law_name.nd rfl (Or.inl rfl) (de_op op_addAny od_add (de_var (pv 1)) (de_call D__law_letter hr (by first | decide | omega) (by first | exact hG | (intro z; cases z)) rfl passL (da_cons (de_call D__law_take hr (by first | decide | omega) (by first | exact hG | (intro z; cases z)) rfl passL (da_cons (de_var (pv 0)) (da_cons de_int da_nil))) da_nil))))))
      (dss_one (ds_ret (de_var (pv 1))))))), fun ds n PP R h => ?_⟩) (fun ds n PP R h => ?_)
  · obtain ⟨rfl, hn, k⟩ := h
    refine ⟨rfl, ?_⟩
    refine ⟨fun ρ' m => ρ' = [.val .pot, .val (.str ""), .no] ∧ m = n + 1, ?_, ?_⟩
    · refine ⟨4, rfl, by omega, by decide, by decide, fun r r0 r1 => ⟨⟨cmp_flat rfl, cmp_flat rfl⟩, ?_⟩⟩
      refine ite2 (fun c => ?_) (fun c => ⟨rfl, rfl⟩)
      exact ⟨rfl, by omega, fun x hx => k x _ hx (by omega) (by omega)⟩
    · rintro ρ' m ⟨rfl, rfl⟩
      refine ⟨by show 6 ≤ sizeLine; decide, [.int 1, .int 1, .int 1, .int 2, .int 4, .int 8], .inl rfl, by omega, by decide, by decide, fun v hv => ?_⟩
      have hv2 : ∃ j : Int, v = .int j ∧ 1 ≤ j ∧ j ≤ 8 := by
        simp only [List.mem_cons, List.not_mem_nil, or_false] at hv
        rcases hv with rfl | rfl | rfl | rfl | rfl | rfl <;> exact ⟨_, rfl, by decide, by decide⟩
      obtain ⟨j, rfl, j0, j1⟩ := hv2
      refine ⟨by omega, fun i ρ' m => ∃ (x : Str) (s : Sl), ρ' = [.val .pot, .val (.str x), s] ∧ x.cps.size = i ∧ i ≤ 8 ∧ (∀ c ∈ x.cps.toList, isLet c) ∧ m = n + 2 + i, ⟨"", .no, rfl, rfl, by omega, fun c hc => by simp [show ("" : Str).cps = #[] from rfl] at hc, rfl⟩, ?_, ?_⟩
      · rintro i d ρ' m hd ⟨x, s, rfl, hx, hi, hl, rfl⟩
        obtain ⟨e1, e2⟩ := List.getElem?_eq_some_iff.mp hd
        rw [numL_len] at e1
        refine ⟨26, rfl, by omega, by decide, by decide, fun r r0 r1 => ⟨r, rfl, r0, r1, fun c hc => ?_⟩⟩
        have hz : x.length + (⟨#[c]⟩ : Str).length ≤ sizeLine := by
          show x.cps.size + 1 ≤ sizeLine
          have : sizeLine = 16777216 := by decide +kernel
          omega
        refine ⟨hz, x ++ ⟨#[c]⟩, _, rfl, ?_, by omega, isNm_cons hl hc, by omega⟩
        show (x.cps ++ #[c]).size = i + 1
        rw [Array.size_append, hx]
        rfl
      · rintro ρ' m ⟨x, s, rfl, hx, hi, hl, rfl⟩
        rw [numL_len] at hx hi
        exact k x _ ⟨by omega, by omega, hl⟩ (by omega) (by rw [numL_len]; omega)
  · obtain ⟨rfl, _⟩ := h
    rfl
/-! ### the law's own look -/
def kindOf (x : Str) (d : Dat) : Bool := if x = "bool" then tyK d == some "bool" else if x = "int" then tyK d == some "int" else tyK d == some "str"
def spIs : DSp := fun ds n Q _ => ∃ (x : Str) (d : Dat), ds = [.str x, d] ∧ (tyK d).isSome = true ∧ Q (.bl (kindOf x d)) n
theorem isT_bool {d : Dat} {t : String} (h : tyK d = some t) : isT "bool" t = (tyK d == some "bool") := by
  rw [h]
  rcases tyK_mem h with h | h | h | h | h | h | h | h <;> subst h <;> rfl
theorem isT_str {d : Dat} {t : String} (h : tyK d = some t) : isT "str" t = (tyK d == some "str") := by
  rw [h]
  rcases tyK_mem h with h | h | h | h | h | h | h | h <;> subst h <;> rfl
theorem isT_int {d : Dat} {t : String} (h : tyK d = some t) : (isT "int" t && !isT "bool" t) = (tyK d == some "int") := by
  rw [h]
  rcases tyK_mem h with h | h | h | h | h | h | h | h <;> subst h <;> rfl
theorem sc__law_is : FnScope ["_law_kind", "_law_value"] ["_law_kind", "_law_value"] (defScope (top 31)) := ⟨rfl, rfl, rfl, by decide +kernel, rfl, by decide +kernel, by decide +kernel⟩
theorem ok_is {G : Bool} (F : Has K mg "_law_is" (top 31)) (T : Blt mg) : Df P w K mg base G 1 "_law_is" (LSp K TT spIs) := by
  refine dat_ok F (fun f fd F => F.binds (fun _ _ _ _ _ _ us hl => match us, hl with | [_, _], _ => rfl)) sc__law_is (fun f cdv A outer s H E hr hG => ⟨_, (dss_cons (ds_if (dt_cmp (op_eqDD hr.units) od_eq (de_var (pv 0)) de_str (nomark _)) (dss_one (ds_ret (de_cb (cd_isT (T := "bool") (by simp)) (pe_callB call_isi rfl T.n_isinstance boot_isinstance (da_cons (de_var (pv 1)) (da_cons (de_c (pe_bltn (v := .ty "bool") rfl T.n_bool boot_bool rfl) (fun _ _ => .ty _)) da_nil)))))) dss_nil)
      (dss_cons (ds_if (dt_cmp (op_eqDD hr.units) od_eq (de_var (pv 0)) de_str (nomark _)) (dss_one (ds_ret (de_and (de_cb (cd_isT (T := "int") (by simp)) (pe_callB call_isi rfl T.n_isinstance boot_isinstance (da_cons (de_var (pv 1)) (da_cons (de_c (pe_bltn (v := .ty "int") rfl T.n_int boot_int rfl) (fun _ _ => .ty _)) da_nil)))) (de_one (de_not (de_cb (cd_isT (T := "bool") (by simp)) (pe_callB call_isi rfl T.n_isinstance boot_isinstance (da_cons (de_var (pv 1)) (da_cons (de_c (pe_bltn (v := .ty "bool") rfl T.n_bool boot_bool rfl) (fun _ _ => .ty _)) da_nil))))))))) dss_nil)
      (dss_one (ds_ret (de_cb (cd_isT (T := "str") (by simp)) (pe_callB call_isi rfl T.n_isinstance boot_isinstance (da_cons (de_var (pv 1)) (da_cons (de_c (pe_bltn (v := .ty "str") rfl T.n_str boot_str rfl) (fun _ _ => .ty _)) da_nil)))))))), fun ds n PP R h => ?_⟩) (fun ds n PP R h => ?_)
  · obtain ⟨x, d, rfl, ht, k⟩ := h
    obtain ⟨t, e⟩ := Option.isSome_iff_exists.mp ht
    have hq : ∀ Q : String → Prop, Q t → optD (tyK d) Q := fun Q q => by rw [e]; exact q
    refine ⟨rfl, ?_⟩
    unfold kindOf at k
    refine ⟨⟨cmp_flat rfl, cmp_flat rfl⟩, ?_⟩
    refine ite2 (fun c => ?_) (fun c => ?_)
    · have c : x = "bool" := by simpa [eqD, py, PyData.eqv] using c
      rw [if_pos c, ← isT_bool e] at k
      exact ⟨rfl, hq _ k⟩
    · have c : x ≠ "bool" := by simpa [eqD, py, PyData.eqv] using c
      rw [if_neg c] at k
      refine ⟨⟨cmp_flat rfl, cmp_flat rfl⟩, ?_⟩
      refine ite2 (fun c => ?_) (fun c => ?_)
      · have c : x = "int" := by simpa [eqD, py, PyData.eqv] using c
        rw [if_pos c, ← isT_int e] at k
        refine ⟨rfl, hq _ ?_⟩
        refine ite2 (fun c => ?_) (fun c => ?_)
        · rw [c, Bool.true_and] at k
          exact ⟨rfl, hq _ k⟩
        · rw [Bool.eq_false_iff.mpr c, Bool.false_and] at k
          exact k
      · have c : x ≠ "int" := by simpa [eqD, py, PyData.eqv] using c
        rw [if_neg c, ← isT_str e] at k
        exact ⟨rfl, hq _ k⟩
  · obtain ⟨x, d, rfl, _⟩ := h
    rfl
/-! ### the same, in kind and through all parts -/
mutual
def sameD : Dat → Dat → Bool
  | .non, .non => true
  | .bl a, .bl b => a == b
  | .int a, .int b => a == b
  | .str a, .str b => a == b
  | .tup xs, .tup ys => sameDs xs ys
  | .lst xs, .lst ys => sameDs xs ys
  | _, _ => false
def sameDs : List Dat → List Dat → Bool
  | [], [] => true
  | x :: xs, y :: ys => sameD x y && sameDs xs ys
  | _, _ => false
end
/-- data of at most n parts within one another -/
def Lvl : Nat → Dat → Prop
  | 0, d => flatK d = true
  | n + 1, d => flatK d = true ∨ ∃ xs, (d = .tup xs ∨ d = .lst xs) ∧ ∀ x ∈ xs, Lvl n x
theorem sameDs_len : ∀ {xs ys : List Dat}, xs.length ≠ ys.length → sameDs xs ys = false
  | [], [], h => absurd rfl h
  | [], _ :: _, _ => rfl
  | _ :: _, [], _ => rfl
  | x :: xs, y :: ys, h => by
    show (sameD x y && sameDs xs ys) = false
    rw [sameDs_len (fun z => h (congrArg (· + 1) z)), Bool.and_false]
theorem sameDs_all : ∀ {xs ys : List Dat}, xs.length = ys.length → ((List.zipWith sameD xs ys).all id) = sameDs xs ys
  | [], [], _ => rfl
  | x :: xs, y :: ys, h => by
    show (sameD x y && ((List.zipWith sameD xs ys).all id)) = _
    rw [sameDs_all (Nat.succ.inj h)]
    rfl
theorem plains_mem : ∀ {xs : List Dat}, plains xs = true → ∀ x ∈ xs, plain x = true
  | x :: xs, h, y, hy => by
    have h2 := Bool.and_eq_true_iff.mp (show (plain x && plains xs) = true from h)
    rcases List.mem_cons.mp hy with z | z
    · rw [z]
      exact h2.1
    · exact plains_mem h2.2 y z
theorem plain_ty {d : Dat} (h : plain d = true) : ∃ t, tyK d = some t := by
  cases d <;> first | exact ⟨_, rfl⟩ | cases h
def spSame (n : Nat) : DSp := fun ds m Q _ => ∃ d e : Dat, ds = [d, e] ∧ Lvl n d ∧ plain d = true ∧ plain e = true ∧ Q (.bl (sameD d e)) m
theorem flat_same {d e : Dat} (hd : flatK d = true) (he : flatK e = true) (h : kindOf "bool" d = kindOf "bool" e ∧ kindOf "int" d = kindOf "int" e ∧ kindOf "str" d = kindOf "str" e) : eqD d e = sameD d e := by
  cases d <;> first | cases hd | skip
  all_goals cases e <;> first | cases he | skip
  all_goals first | rfl | exact Bool.noConfusion (show true = false from h.1) | exact Bool.noConfusion (show false = true from h.1)
theorem flat_diff {d e : Dat} (hd : flatK d = true) (he : flatK e = true) (x : Str) (hx : x = "bool" ∨ x = "int" ∨ x = "str") (h : kindOf x d ≠ kindOf x e) : sameD d e = false := by
  cases d <;> first | cases hd | skip
  all_goals cases e <;> first | cases he | skip
  all_goals first | rfl | (exfalso; rcases hx with hx | hx | hx <;> subst hx <;> exact h rfl)
theorem flat_tyTL {d : Dat} (h : flatK d = true) : ∃ t, tyK d = some t ∧ (t == "tuple" || t == "list") = false ∧ isT "tuple" t = false ∧ isT "list" t = false := by
  cases d <;> first | exact ⟨_, rfl, rfl, rfl, rfl⟩ | cases h
theorem seq_of {d : Dat} (h : plain d = true) (f : ¬ flatK d = true) : ∃ xs, plains xs = true ∧ (d = .tup xs ∨ d = .lst xs) := by
  cases d <;> first | exact absurd rfl f | exact ⟨_, h, .inl rfl⟩ | exact ⟨_, h, .inr rfl⟩ | cases h
theorem pairs_mem {xs ys : List Dat} {d : Dat} (h : d ∈ pairs xs ys) : ∃ x ∈ xs, ∃ y ∈ ys, d = .tup [x, y] := by
  obtain ⟨i, hi⟩ := List.mem_iff_getElem?.mp h
  obtain ⟨x, y, h1, h2, e⟩ := pairs_get hi
  exact ⟨x, List.mem_of_getElem? h1, y, List.mem_of_getElem? h2, e⟩
/-- the answers of a pair -/
def same2 : Dat → Dat
  | .tup [x, y] => .bl (sameD x y)
  | d => d
theorem same2_pairs : ∀ xs ys : List Dat, (pairs xs ys).map same2 = (List.zipWith sameD xs ys).map Dat.bl
  | [], _ => by simp [pairs]
  | _ :: _, [] => by simp [pairs]
  | x :: xs, y :: ys => by
    have := same2_pairs xs ys
    simp only [pairs, List.zipWith_cons_cons, List.map_cons] at this ⊢
    rw [this]
    rfl
theorem sc__law_same : FnScope ["_law_one", "_law_other", "_law_kind", "_law_both", "_law_lists", "_law_here", "_law_there"] ["_law_one", "_law_other"] (defScope (top 30)) := ⟨rfl, rfl, rfl, by decide +kernel, rfl, by decide +kernel, by decide +kernel⟩
theorem same_step {G : Bool} {lv : Nat} {sp0 : DSp} (F : Has K mg "_law_same" (top 30)) (T : Blt mg) (D__law_is : Df P w K mg base false 1 "_law_is" (LSp K TT spIs)) (D__law_same : Df P w K mg base G (lv + 1) "_law_same" (LSp K TT sp0))
    (hc : ∀ d, Lvl lv d → ∀ xs, (d = .tup xs ∨ d = .lst xs) → ∀ x ∈ xs, ∀ (y : Dat) (m : Nat) (Q : Dat → Nat → Prop) (R : RX), plain x = true → plain y = true → Q (.bl (sameD x y)) m → sp0 [x, y] m Q R) : Df P w K mg base G (lv + 2) "_law_same" (LSp K TT (spSame lv)) := by
  refine dat_ok F (fun f fd F => F.binds (fun _ _ _ _ _ _ us hl => match us, hl with | [_, _], _ => rfl)) sc__law_same (fun f cdv A outer s H E hr hG => ⟨_, (dss_cons (ds_if (PW.pt (dw_or (dt_val (de_isTL (pe_callB call_isiT rfl T.n_isinstance boot_isinstance (pa_cons (de_var (pv 0)) (pa_cons (pe_tup (pa_cons (pe_bltn (v := .ty "tuple") rfl T.n_tuple boot_tuple rfl) (pa_cons (pe_bltn (v := .ty "list") rfl T.n_list boot_list rfl) pa_nil))) pa_nil))))) (dw_or1 (dt_val (de_isTL (pe_callB call_isiT rfl T.n_isinstance boot_isinstance (pa_cons (de_var (pv 1)) (pa_cons (pe_tup (pa_cons (pe_bltn (v := .ty "tuple") rfl T.n_tuple boot_tuple rfl) (pa_cons (pe_bltn (v := .ty "list") rfl T.n_list boot_list rfl) pa_nil))) pa_nil)))))))) (dss_cons (ds_set (i := 3) sc__law_same.nd rfl (Or.inl rfl) (de_and (de_cb (cd_isT (T := "tuple") (by simp)) (pe_callB call_isi rfl T.n_isinstance boot_isinstance (da_cons (de_var (pv 0)) (da_cons (de_c (pe_bltn (v := .ty "tuple") rfl T.n_tuple boot_tuple rfl) (fun _ _ => .ty _)) da_nil)))) (de_one (de_cb (cd_isT (T := "tuple") (by simp)) (pe_callB call_isi rfl T.n_isinstance boot_isinstance (da_cons (de_var (pv 1)) (da_cons (de_c (pe_bltn (v := .ty "tuple") rfl T.n_tuple boot_tuple rfl) (fun _ _ => .ty _)) da_nil)))))))
      (dss_cons (ds_set (i := 4) sc__law_same.nd rfl (Or.inl rfl) (de_and (de_cb (cd_isT (T := "list") (by simp)) (pe_callB call_isi rfl T.n_isinstance boot_isinstance (da_cons (de_var (pv 0)) (da_cons (de_c (pe_bltn (v := .ty "list") rfl T.n_list boot_list rfl) (fun _ _ => .ty _)) da_nil)))) (de_one (de_cb (cd_isT (T := "list") (by simp)) (pe_callB call_isi rfl T.n_isinstance boot_isinstance (da_cons (de_var (pv 1)) (da_cons (de_c (pe_bltn (v := .ty "list") rfl T.n_list boot_list rfl) (fun _ _ => .ty _)) da_nil)))))))
      (dss_cons (ds_if (PW.pt (dw_or (PW.pt (dw_and (dt_not (dt_val (de_var (pv 3)))) (dw_and1 (dt_not (dt_val (de_var (pv 4))))))) (dw_or1 (dt_cmp (op_neDD hr.units) od_ne (de_cb cd_len (pe_callB call_len rfl T.n_len boot_len (da_cons (de_var (pv 0)) da_nil))) (de_cb cd_len (pe_callB call_len rfl T.n_len boot_len (da_cons (de_var (pv 1)) da_nil))) (nomark _))))) (dss_one (ds_ret de_bl)) dss_nil)
      (dss_one (ds_ret (de_cb cd_all (pe_callB (cr_all rfl) rfl T.n_all boot_all (da_cons (de_fr (lf_lcI (own := [("_law_here", 5), ("_law_there", 6)]) rfl sc__law_same.nd (di_zip (pi_zipA rfl T.n_zip (da_cons (de_var (pv 0)) (da_cons (de_var (pv 1)) da_nil)))) (blkOk_by rfl) (fun _ _ _ _ _ => (dg_tup (n := 2) rfl (dgs_cons (dg_name (pg_name (i := 5) sc__law_same.nd rfl (Or.inl rfl) (Or.inr rfl))) (dgs_cons (dg_name (pg_name (i := 6) sc__law_same.nd rfl (Or.inl rfl) (Or.inr rfl))) dgs_nil)) (fun ds ρ P h => dgl_len (l := [5, 6]) h))) (fun _ _ _ _ _ => dts_nil) (fun _ _ _ _ _ => (de_call D__law_same hr (by first | decide | omega) (by first | exact hG | (intro z; cases z)) rfl passL (da_cons (de_var (pv 5)) (da_cons (de_var (pv 6)) da_nil)))))) da_nil)))))))) dss_nil)
      (dss_cons (ds_forI PassesOwn.never rfl (di_tup (de_tup (da_cons de_str (da_cons de_str (da_cons de_str da_nil))))) (dg_name (pg_name (i := 2) sc__law_same.nd rfl (Or.inl rfl) (Or.inl rfl))) (dss_one (ds_if (dt_cmp (op_neDD hr.units) od_ne (de_call D__law_is hr (by first | decide | omega) (by first | exact hG | (intro z; cases z)) rfl passL (da_cons (de_var (pv 2)) (da_cons (de_var (pv 0)) da_nil))) (de_call D__law_is hr (by first | decide | omega) (by first | exact hG | (intro z; cases z)) rfl passL (da_cons (de_var (pv 2)) (da_cons (de_var (pv 1)) da_nil))) (nomark _)) (dss_one (ds_ret de_bl)) dss_nil)))
      (dss_one (ds_ret (de_cmp (op_eqDD hr.units) od_eq (de_var (pv 0)) (de_var (pv 1)) (nomark _)))))), fun ds n PP R h => ?_⟩) (fun ds n PP R h => ?_)
  · obtain ⟨d, e, rfl, hl, pd, pe, k⟩ := h
    refine ⟨rfl, ?_⟩
    have oq : ∀ {x : Dat} {t : String} {Q : String → Prop}, tyK x = some t → Q t → optD (tyK x) Q := fun {x t Q} e q => by rw [e]; exact q
    by_cases fd : flatK d = true
    · obtain ⟨t, e1, e2, e5, e6⟩ := flat_tyTL fd
      refine oq e1 ?_
      show if (t == "tuple" || t == "list") = true then _ else _
      rw [e2]
      refine iteF ?_
      by_cases fe : flatK e = true
      · obtain ⟨t3, e3, e4, _, _⟩ := flat_tyTL fe
        refine oq e3 ?_
        show if (t3 == "tuple" || t3 == "list") = true then _ else _
        rw [e4]
        refine iteF ?_
        refine ⟨by show 3 ≤ sizeLine; decide, fun i ρ' m' => ∃ s : Sl, ρ' = [.val d, .val e, s, .no, .no, .no, .no] ∧ m' = n ∧ ∀ x ∈ (["bool", "int", "str"] : List Str).take i, kindOf x d = kindOf x e, ⟨.no, rfl, rfl, fun x hx => by simp at hx⟩, ?_, ?_⟩
        · rintro i a ρ' m' ha ⟨s, rfl, rfl, hk⟩
          have ha2 : ∃ x : Str, a = .str x ∧ (["bool", "int", "str"] : List Str)[i]? = some x := by
            match i, ha with
            | 0, ha => cases ha; exact ⟨_, rfl, rfl⟩
            | 1, ha => cases ha; exact ⟨_, rfl, rfl⟩
            | 2, ha => cases ha; exact ⟨_, rfl, rfl⟩
            | i + 3, ha => cases ha
          obtain ⟨x, rfl, hx⟩ := ha2
          refine ⟨x, d, rfl, by rw [e1]; rfl, x, e, rfl, by rw [e3]; rfl, ⟨cmp_flat rfl, cmp_flat rfl⟩, ?_⟩
          have hx2 : x = "bool" ∨ x = "int" ∨ x = "str" := by
            have := List.mem_of_getElem? hx
            simpa using this
          by_cases hxe : kindOf x d = kindOf x e
          · show if (!(kindOf x d == kindOf x e)) = true then _ else _
            rw [hxe, beq_self_eq_true]
            refine iteF ⟨_, rfl, rfl, fun y hy => ?_⟩
            rw [List.take_add_one, hx] at hy
            rcases List.mem_append.mp hy with z | z
            · exact hk y z
            · simp at z
              rw [z]
              exact hxe
          · show if (!(kindOf x d == kindOf x e)) = true then _ else _
            rw [beq_eq_false_iff_ne.mpr hxe]
            rw [flat_diff fd fe x hx2 hxe] at k
            exact k
        · rintro ρ' m' ⟨s, rfl, rfl, hk⟩
          refine ⟨⟨cmp_flat fd, cmp_flat fe⟩, ?_⟩
          rw [flat_same fd fe ⟨hk _ (by simp), hk _ (by simp), hk _ (by simp)⟩]
          exact k
      · obtain ⟨ys, py, he⟩ := seq_of pe fe
        have no : sameD d e = false := by
          rcases he with rfl | rfl <;> cases d <;> first | rfl | cases fd
        have e4 : ∃ t3, tyK e = some t3 ∧ (t3 == "tuple" || t3 == "list") = true := by rcases he with rfl | rfl <;> exact ⟨_, rfl, rfl⟩
        obtain ⟨t3, e3, e4⟩ := e4
        rw [no] at k
        refine oq e3 ?_
        show if (t3 == "tuple" || t3 == "list") = true then _ else _
        rw [e4]
        refine iteT ?_
        refine ⟨rfl, oq e1 ?_⟩
        show if isT "tuple" t = true then _ else _
        rw [e5]
        refine iteF ⟨rfl, oq e1 ?_⟩
        show if isT "list" t = true then _ else _
        rw [e6]
        exact k
    · obtain ⟨xs, px, hd⟩ := seq_of pd fd
      have hmem : ∀ x ∈ xs, plain x = true := plains_mem px
      have go : ∀ ys : List Dat, plains ys = true → xs.length = ys.length → PP (.bl (sameDs xs ys)) n → ∀ (ρ : List Sl), ρ.length = 7 → compI [5, 6] (dgTup (dgCons (dgName 5) (dgCons (dgName 6) dgNil))) (fun _ n P _ => P true n) (dCall sp0 (dCons (dVar 5) (dCons (dVar 6) dNil))) ρ (fun zs m => bools zs fun bs => PP (.bl (bs.all id)) m) (pairs xs ys) n := fun ys py hlen kk ρ hρ => by
        refine compI_map same2 (fun p hp Q q => ?_) ?_
        · obtain ⟨x, hx, y, hy, rfl⟩ := pairs_mem hp
          match ρ, hρ with
          | [_, _, _, _, _, _, _], _ => exact hc d hl xs hd x hx y _ _ _ (hmem x hx) (plains_mem py y hy) q
        · rw [same2_pairs]
          refine bools_map _ ?_
          rw [sameDs_all hlen]
          exact kk
      have lenNe : ∀ a b : Nat, a ≠ b → (!eqD (.int (a : Nat)) (.int (b : Nat))) = true := fun a b h => by
        show (!((a : Int) == (b : Int))) = true
        rw [beq_eq_false_iff_ne.mpr (by omega)]
        rfl
      have lenEq : ∀ a b : Nat, a = b → (!eqD (.int (a : Nat)) (.int (b : Nat))) = false := fun a b h => by
        subst h
        show (!((a : Int) == (a : Int))) = false
        rw [beq_self_eq_true]
        rfl
      by_cases fe : flatK e = true
      · obtain ⟨t3, e3, e4, e5, e6⟩ := flat_tyTL fe
        have no : sameD d e = false := by rcases hd with rfl | rfl <;> cases e <;> first | rfl | cases fe
        rw [no] at k
        rcases hd with rfl | rfl
        · refine ⟨rfl, rfl, oq e3 ?_⟩
          rw [e5]
          exact ⟨rfl, k⟩
        · refine ⟨rfl, rfl, rfl, oq e3 ?_⟩
          rw [e6]
          exact k
      · obtain ⟨ys, py, he⟩ := seq_of pe fe
        rcases hd with rfl | rfl
        · rcases he with rfl | rfl
          · refine ⟨rfl, rfl, rfl, ⟨cmp_flat rfl, cmp_flat rfl⟩, ?_⟩
            by_cases hlen : xs.length = ys.length
            · show if (!eqD (.int (xs.length : Nat)) (.int (ys.length : Nat))) = true then _ else _
              rw [lenEq _ _ hlen]
              exact iteF ⟨hlen, go ys py hlen k _ rfl⟩
            · show if (!eqD (.int (xs.length : Nat)) (.int (ys.length : Nat))) = true then _ else _
              rw [lenNe _ _ hlen]
              rw [show sameD (.tup xs) (.tup ys) = false from sameDs_len hlen] at k
              exact iteT k
          · exact ⟨rfl, rfl, rfl, k⟩
        · rcases he with rfl | rfl
          · exact ⟨rfl, rfl, rfl, k⟩
          · refine ⟨rfl, rfl, rfl, ⟨cmp_flat rfl, cmp_flat rfl⟩, ?_⟩
            by_cases hlen : xs.length = ys.length
            · show if (!eqD (.int (xs.length : Nat)) (.int (ys.length : Nat))) = true then _ else _
              rw [lenEq _ _ hlen]
              exact iteF (go ys py hlen k _ rfl)
            · show if (!eqD (.int (xs.length : Nat)) (.int (ys.length : Nat))) = true then _ else _
              rw [lenNe _ _ hlen]
              rw [show sameD (.lst xs) (.lst ys) = false from sameDs_len hlen] at k
              exact iteT k
  · obtain ⟨d, e, rfl, _⟩ := h
    rfl
end
end Aim

namespace Aim
open PySem PySem.Spec PyProof.Rows L2 RZ
open LamX (TabB)
section
variable {P : Program} {w : World} {K : PySem.W.Frag} {mg : Str → Option Value} {base : Heap} {TT : List (Addr × Str)}
/-- a def that no call reaches -/
theorem Df.none {G : Bool} {k : Nat} {x : Str} {st : Stmt} {ps : List Str} (F : Has K mg x st) (hb : ∀ f fd, L2.Fun K x x st f fd → L2.Binds K fd ps []) : Df P w K mg base G k x (LSp K TT fun _ _ _ _ => False) := by
  obtain ⟨f, fd, F, hm⟩ := F.ex
  exact ⟨f, fd, ps, ⟨fun _ _ _ _ ⟨_, _, _, _, _, h, _⟩ => h.elim, fun _ _ _ _ _ ⟨_, _, _, _, _, h, _⟩ => h.elim⟩, hm, F.kp, hb f fd F⟩
theorem lvl_inner {n : Nat} {d : Dat} (h : Lvl (n + 1) d) {xs : List Dat} (e : d = .tup xs ∨ d = .lst xs) : ∀ x ∈ xs, Lvl n x := by
  rcases h with h | ⟨ys, h, q⟩
  · rcases e with rfl | rfl <;> cases h
  · rcases e with rfl | rfl <;> rcases h with h | h <;> cases h <;> exact q
theorem ok_same {G : Bool} (F : Has K mg "_law_same" (top 30)) (T : Blt mg) (D__law_is : Df P w K mg base false 1 "_law_is" (LSp K TT spIs)) : ∀ lv : Nat, Df P w K mg base G (lv + 2) "_law_same" (LSp K TT (spSame lv))
  | 0 => same_step (sp0 := fun _ _ _ _ => False) F T D__law_is (.none (ps := ["_law_one", "_law_other"]) F fun f fd F => F.binds (fun _ _ _ _ _ _ us hl => match us, hl with | [_, _], _ => rfl)) fun d hd xs e => by
    rcases e with rfl | rfl <;> cases hd
  | lv + 1 => same_step (lv := lv + 1) F T D__law_is (ok_same F T D__law_is lv) fun d hd xs e x hx y m Q R px py q => ⟨x, y, rfl, lvl_inner hd e x hx, px, py, q⟩
/-! ### odd values -/
def oddL : List Dat := [.non, .int (-1), .int 10, .int (10 ^ 40), .str "", .str "A", .str "a b", .str "abcdefghi", .str "a1", .tup [.non], .tup [.tup []], .lst [], .lst [.str "a"], .dct [] [], .dct [.inr "a"] [.int 1]]
def spOdd : DSp := fun ds n Q _ => ds = [.pot] ∧ n < 1000000 ∧ ∀ v ∈ oddL, Q v (n + 1)
theorem sc__law_odd : FnScope ["_law_pot_here", "_law_some"] ["_law_pot_here"] (defScope (top 32)) := ⟨rfl, rfl, rfl, by decide +kernel, rfl, by decide +kernel, by decide +kernel⟩
theorem ok_odd {G : Bool} (F : Has K mg "_law_odd" (top 32)) (T : Blt mg) (D__law_of : Df P w K mg base false 2 "_law_of" (LSp K TT spOf)) : Df P w K mg base G 3 "_law_odd" (LSp K TT spOdd) := by
  refine dat_ok F (fun f fd F => F.binds (fun _ _ _ _ _ _ us hl => match us, hl with | [_], _ => rfl)) sc__law_odd (fun f cdv A outer s H E hr hG => ⟨_, (dss_cons (ds_set (i := 1) sc__law_odd.nd rfl (Or.inl rfl) (de_lst (da_cons de_non (da_cons (de_neg de_int) (da_cons de_int (da_cons (de_op op_powW (od_IC _) de_int de_int) (da_cons de_str (da_cons de_str (da_cons de_str (da_cons de_str (da_cons de_str (da_cons (de_tup (da_cons de_non da_nil)) (da_cons (de_tup (da_cons (de_tup da_nil) da_nil)) (da_cons (de_lst da_nil) (da_cons (de_lst (da_cons de_str da_nil)) (da_cons (de_dict0) (da_cons (de_dict1 (d := .int 1) pe_int rfl (fun _ _ => .int 1)) da_nil)))))))))))))))))
      (dss_one (ds_ret (de_call D__law_of hr (by first | decide | omega) (by first | exact hG | (intro z; cases z)) rfl passL (da_cons (de_var (pv 0)) (da_cons (de_var (pv 1)) da_nil)))))), fun ds n PP R h => ?_⟩) (fun ds n PP R h => ?_)
  · obtain ⟨rfl, hn, k⟩ := h
    exact ⟨rfl, ⟨by decide, by decide⟩, by show 1 ≤ sizeLine; decide, by show 0 ≤ sizeLine; decide, by show 1 ≤ sizeLine; decide, by show 0 ≤ sizeLine; decide, by show 1 ≤ sizeLine; decide, by show 15 ≤ sizeLine; decide, oddL, .inl rfl, hn, by decide, by decide, k⟩
  · obtain ⟨rfl, _⟩ := h
    rfl
/-! ### names -/
def isName : Dat → Bool
  | .str x => decide (1 ≤ x.cps.size) && decide (x.cps.size ≤ 8) && x.cps.toList.all fun c => decide (c ∈ abc.cps.toList)
  | _ => false
def spIsName : DSp := fun ds n Q _ => ∃ d : Dat, ds = [d] ∧ (tyK d).isSome = true ∧ Q (.bl (isName d)) n
theorem ty_of {d : Dat} (h : (tyK d).isSome = true) {Q : String → Prop} (k : ∀ t, tyK d = some t → Q t) : optD (tyK d) Q := by
  obtain ⟨t, e⟩ := Option.isSome_iff_exists.mp h
  rw [e]
  exact k t e
/-- a text, or its kind is no text's -/
theorem str_or {d : Dat} (h : (tyK d).isSome = true) : (∃ x, d = .str x) ∨ ∃ t, tyK d = some t ∧ isT "str" t = false := by
  cases d <;> first | exact .inl ⟨_, rfl⟩ | exact .inr ⟨_, rfl, rfl⟩ | cases h
theorem tup_or {d : Dat} (h : (tyK d).isSome = true) : (∃ x, d = .tup x) ∨ ∃ t, tyK d = some t ∧ isT "tuple" t = false := by
  cases d <;> first | exact .inl ⟨_, rfl⟩ | exact .inr ⟨_, rfl, rfl⟩ | cases h
def inAbc : Dat → Dat
  | .str ⟨⟨[c]⟩⟩ => .bl (decide (c ∈ abc.cps.toList))
  | d => d
theorem signs_mem {x : Str} {d : Dat} (h : d ∈ signs x) : ∃ c, d = .str ⟨#[c]⟩ := by
  obtain ⟨c, _, e⟩ := List.mem_map.mp h
  exact ⟨c, e.symm⟩
theorem inAbc_signs (x : Str) : (signs x).map inAbc = (x.cps.toList.map fun c => decide (c ∈ abc.cps.toList)).map Dat.bl := by
  unfold signs
  rw [List.map_map, List.map_map]
  rfl
theorem sc__law_is_name : FnScope ["_law_value", "_law_letter_here"] ["_law_value"] (defScope (top 33)) := ⟨rfl, rfl, rfl, by decide +kernel, rfl, by decide +kernel, by decide +kernel⟩
theorem ok_is_name {G : Bool} (F : Has K mg "_law_is_name" (top 33)) (T : Blt mg) : Df P w K mg base G 1 "_law_is_name" (LSp K TT spIsName) := by
  refine dat_ok F (fun f fd F => F.binds (fun _ _ _ _ _ _ us hl => match us, hl with | [_], _ => rfl)) sc__law_is_name (fun f cdv A outer s H E hr hG => ⟨_, (dss_cons (ds_if (PW.pt (dw_or (dt_not (dt_val (de_cb (cd_isT (T := "str") (by simp)) (pe_callB call_isi rfl T.n_isinstance boot_isinstance (da_cons (de_var (pv 0)) (da_cons (de_c (pe_bltn (v := .ty "str") rfl T.n_str boot_str rfl) (fun _ _ => .ty _)) da_nil)))))) (dw_or1 (dt_not (dt_chain op_le op_le (od_IB _) (od_IB _) de_int (de_cb cd_len (pe_callB call_len rfl T.n_len boot_len (da_cons (de_var (pv 0)) da_nil))) de_int))))) (dss_one (ds_ret de_bl)) dss_nil)
      (dss_one (ds_ret (de_cb cd_all (pe_callB (cr_all rfl) rfl T.n_all boot_all (da_cons (de_fr (lf_lcI (own := [("_law_letter_here", 1)]) rfl sc__law_is_name.nd (di_str (de_var (pv 0))) (blkOk_by rfl) (fun _ _ _ _ _ => (dg_name (pg_name (i := 1) sc__law_is_name.nd rfl (Or.inl rfl) (Or.inr rfl)))) (fun _ _ _ _ _ => dts_nil) (fun _ _ _ _ _ => (de_cmp (op_inAny (units65 hr)) od_inAny (de_var (pv 1)) de_str (by rfl))))) da_nil)))))), fun ds n PP R h => ?_⟩) (fun ds n PP R h => ?_)
  · obtain ⟨d, rfl, ht, k⟩ := h
    refine ⟨rfl, ?_⟩
    rcases str_or ht with ⟨x, rfl⟩ | ⟨t, e, e2⟩
    · refine ⟨rfl, ?_⟩
      have ok : ∀ (Q : Dat → Nat → Prop) (R' : RX), Q (.bl (x.cps.toList.all fun c => decide (c ∈ abc.cps.toList))) n → ∀ ρ : List Sl, ρ.length = 2 → compI [1] (dgName 1) (fun _ n P _ => P true n) (dOp gInAny (dVar 1) (dC (.str abc))) ρ (fun zs m => bools zs fun bs => Q (.bl (bs.all id)) m) (signs x) n := fun Q R' q ρ hρ => by
        refine compI_map inAbc (fun p hp Q q => ?_) ?_
        · obtain ⟨c, rfl⟩ := signs_mem hp
          match ρ, hρ with
          | [_, _], _ => exact .inr (.inr q)
        · rw [inAbc_signs]
          refine bools_map _ ?_
          rw [List.all_map]
          exact q
      refine ite2 (fun c => ?_) (fun c => ?_)
      · refine ite2 (fun c2 => ?_) (fun c2 => ?_)
        · have no : isName (.str x) = false := by
            have : ¬ x.cps.size ≤ 8 := by
              have c3 : ¬ ((x.length : Nat) : Int) ≤ 8 := by simpa using c2
              show ¬ x.length ≤ 8
              omega
            show (_ && _ && _) = false
            rw [decide_eq_false this, Bool.and_false, Bool.false_and]
          rw [no] at k
          exact k
        · refine ok _ R ?_ _ rfl
          have h1 : 1 ≤ x.cps.size := by
            have c3 : (1 : Int) ≤ ((x.length : Nat) : Int) := by simpa using c
            show 1 ≤ x.length
            omega
          have h2 : x.cps.size ≤ 8 := by
            have c3 : ((x.length : Nat) : Int) ≤ 8 := by simpa using c2
            show x.length ≤ 8
            omega
          have yes : isName (.str x) = x.cps.toList.all fun c => decide (c ∈ abc.cps.toList) := by
            show (_ && _ && _) = _
            rw [decide_eq_true h1, decide_eq_true h2]
            rfl
          rw [yes] at k
          exact k
      · have no : isName (.str x) = false := by
          have : ¬ 1 ≤ x.cps.size := by
            have c3 : ¬ (1 : Int) ≤ ((x.length : Nat) : Int) := by simpa using c
            show ¬ 1 ≤ x.length
            omega
          show (_ && _ && _) = false
          rw [decide_eq_false this, Bool.false_and, Bool.false_and]
        rw [no] at k
        exact k
    · refine ⟨rfl, ?_⟩
      refine ty_of ht fun t' e' => ?_
      rw [e] at e'
      cases e'
      show if (!isT "str" t) = true then _ else _
      rw [e2]
      have no : isName d = false := by
        cases d <;> first | rfl | (cases e; cases e2)
      rw [no] at k
      exact iteT k
  · obtain ⟨d, rfl, _⟩ := h
    rfl
/-! ### values bent -/
/-- what stands in a value that is bent: small and flat -/
def flatS : Dat → Prop
  | .non => True | .bl _ => True
  | .int i => -1 ≤ i ∧ i ≤ 1000
  | .str x => x.cps.size ≤ 60
  | _ => False
def InV : Nat → Dat → Prop
  | 0, d => flatS d
  | k + 1, d => flatS d ∨ ∃ xs, d = .tup xs ∧ xs.length ≤ 500 ∧ ∀ x ∈ xs, InV k x
/-- what a bent value is made of: kinds known, texts short -/
def flatO : Dat → Prop
  | .non => True | .bl _ => True | .int _ => True
  | .str x => x.cps.size ≤ 100
  | .dct _ _ => True
  | _ => False
def OutV : Nat → Dat → Prop
  | 0, d => flatO d
  | k + 1, d => flatO d ∨ ∃ xs, (d = .tup xs ∨ d = .lst xs) ∧ xs.length ≤ 1001 ∧ ∀ x ∈ xs, OutV k x
theorem flatS_O {d : Dat} (h : flatS d) : flatO d := by
  cases d <;> first | trivial | (show _ ≤ 100; have : _ ≤ 60 := h; omega) | cases h
theorem OutV.up : ∀ {k : Nat} {d : Dat}, OutV k d → OutV (k + 1) d
  | 0, d, h => .inl h
  | k + 1, d, h => by
    rcases h with h | ⟨xs, e, l, q⟩
    · exact .inl h
    · exact .inr ⟨xs, e, l, fun x hx => (q x hx).up⟩
theorem OutV.le {k j : Nat} {d : Dat} (h : OutV k d) (hj : k ≤ j) : OutV j d := by
  induction hj with
  | refl => exact h
  | step _ ih => exact ih.up
theorem OutV.flat {d : Dat} (h : flatO d) : ∀ k, OutV k d
  | 0 => h
  | _ + 1 => .inl h
theorem InV.out : ∀ {k : Nat} {d : Dat}, InV k d → OutV k d
  | 0, d, h => flatS_O h
  | k + 1, d, h => by
    rcases h with h | ⟨xs, e, l, q⟩
    · exact .inl (flatS_O h)
    · exact .inr ⟨xs, .inl e, by omega, fun x hx => (q x hx).out⟩
theorem OutV.ty : ∀ {k : Nat} {d : Dat}, OutV k d → (tyK d).isSome = true
  | 0, d, h => by cases d <;> first | rfl | cases h
  | k + 1, d, h => by
    rcases h with h | ⟨xs, rfl | rfl, _⟩
    · cases d <;> first | rfl | cases h
    · rfl
    · rfl
theorem odd_out {k : Nat} : ∀ v ∈ oddL, OutV (k + 2) v := fun v hv => by
  have e : flatO v ∨ v = .tup [.non] ∨ v = .tup [.tup []] ∨ v = .lst [] ∨ v = .lst [.str "a"] := by
    unfold oddL at hv
    simp only [List.mem_cons, List.not_mem_nil, or_false] at hv
    rcases hv with rfl | rfl | rfl | rfl | rfl | rfl | rfl | rfl | rfl | rfl | rfl | rfl | rfl | rfl | rfl <;>
      first
      | exact .inl trivial
      | exact .inl (show _ ≤ 100 by decide)
      | exact .inr (.inl rfl)
      | exact .inr (.inr (.inl rfl))
      | exact .inr (.inr (.inr (.inl rfl)))
      | exact .inr (.inr (.inr (.inr rfl)))
  rcases e with e | rfl | rfl | rfl | rfl
  · exact .flat e _
  · exact .inr ⟨_, .inl rfl, by decide, fun x hx => by rw [List.mem_singleton.mp hx]; exact .flat (d := .non) trivial _⟩
  · exact .inr ⟨_, .inl rfl, by decide, fun x hx => by rw [List.mem_singleton.mp hx]; exact .inr ⟨_, .inl rfl, by decide, fun x hx => by simp at hx⟩⟩
  · exact .inr ⟨_, .inr rfl, by decide, fun x hx => by simp at hx⟩
  · exact .inr ⟨_, .inr rfl, by decide, fun x hx => by rw [List.mem_singleton.mp hx]; exact .flat (show _ ≤ 100 by decide) _⟩
theorem cutD_mem {xs : List Dat} {lo hi : Option Int} {x : Dat} (h : x ∈ cutD xs lo hi) : x ∈ xs := List.mem_of_mem_drop (List.mem_of_mem_take h)
/-- a row bent: a tuple or a list of its members, some left out, twice or odd -/
theorem cutD_len (xs : List Dat) (lo hi : Option Int) : (cutD xs lo hi).length ≤ xs.length := by
  unfold cutD
  rw [List.length_take, List.length_drop]
  omega
def spRow : DSp := fun ds n Q _ => ∃ xs : List Dat, ds = [.pot, .tup xs] ∧ n < 900000 ∧ 0 < xs.length ∧ xs.length ≤ 500 ∧ ∀ ys m, n ≤ m → m ≤ n + 3 → (∀ y ∈ ys, y ∈ xs ∨ y ∈ oddL) → ys.length ≤ 2 * xs.length + 1 → Q (.tup ys) m ∧ Q (.lst ys) m
theorem sc__law_bent_row : FnScope ["_law_pot_here", "_law_value", "_law_at", "_law_kind"] ["_law_pot_here", "_law_value"] (defScope (top 34)) := ⟨rfl, rfl, rfl, by decide +kernel, rfl, by decide +kernel, by decide +kernel⟩
theorem ok_bent_row {G : Bool} (F : Has K mg "_law_bent_row" (top 34)) (T : Blt mg) (D__law_take : Df P w K mg base false 1 "_law_take" (LSp K TT spTake)) (D__law_odd : Df P w K mg base false 3 "_law_odd" (LSp K TT spOdd)) : Df P w K mg base G 4 "_law_bent_row" (LSp K TT spRow) := by
  refine dat_ok F (fun f fd F => F.binds (fun _ _ _ _ _ _ us hl => match us, hl with | [_, _], _ => rfl)) sc__law_bent_row (fun f cdv A outer s H E hr hG => ⟨_, (dss_cons (ds_par (ps_par (i := 2) (j := 3) rfl sc__law_bent_row.nd rfl rfl (by decide) rfl rfl (da_cons (de_call D__law_take hr (by first | decide | omega) (by first | exact hG | (intro z; cases z)) rfl passL (da_cons (de_var (pv 0)) (da_cons (de_cb cd_len (pe_callB call_len rfl T.n_len boot_len (da_cons (de_var (pv 1)) da_nil))) da_nil))) (da_cons (de_call D__law_take hr (by first | decide | omega) (by first | exact hG | (intro z; cases z)) rfl passL (da_cons (de_var (pv 0)) (da_cons de_int da_nil))) da_nil)) (by rfl)))
      (dss_cons (ds_if (dt_cmp (op_eqDD hr.units) od_eq (de_var (pv 3)) de_int (nomark _)) (dss_one (ds_ret (de_op op_addAny od_add (de_sl (de_var (pv 1)) do_none (do_some (de_var (pv 2)))) (de_sl (de_var (pv 1)) (do_some (de_op op_addAny od_add (de_var (pv 2)) de_int)) do_none)))) dss_nil)
      (dss_cons (ds_if (dt_cmp (op_eqDD hr.units) od_eq (de_var (pv 3)) de_int (nomark _)) (dss_one (ds_ret (de_op op_addAny od_add (de_var (pv 1)) (de_sl (de_var (pv 1)) (do_some (de_var (pv 2))) (do_some (de_op op_addAny od_add (de_var (pv 2)) de_int)))))) dss_nil)
      (dss_cons (ds_if (dt_cmp (op_eqDD hr.units) od_eq (de_var (pv 3)) de_int (nomark _)) (dss_one (ds_ret (de_op op_addAny od_add (de_op op_addAny od_add (de_sl (de_var (pv 1)) do_none (do_some (de_var (pv 2)))) (de_tup (da_cons (de_call D__law_odd hr (by first | decide | omega) (by first | exact hG | (intro z; cases z)) rfl passL (da_cons (de_var (pv 0)) da_nil)) da_nil))) (de_sl (de_var (pv 1)) (do_some (de_op op_addAny od_add (de_var (pv 2)) de_int)) do_none)))) dss_nil)
      (dss_one (ds_ret (de_if (dt_cmp (op_eqDD hr.units) od_eq (de_var (pv 3)) de_int (nomark _)) (de_rev (de_var (pv 1))) (de_fr (L2.PE.imp (pe_callTy call_list_of rfl T.n_list boot_list (pa_cons (de_var (pv 1)) pa_nil)) fun _ _ _ h => lf_list h))))))))), fun ds n PP R h => ?_⟩) (fun ds n PP R h => ?_)
  · obtain ⟨xs, rfl, hn, h0, h1, k⟩ := h
    refine ⟨rfl, ?_⟩
    refine ⟨(xs.length : Nat), rfl, by omega, by omega, by omega, fun a a0 a1 => ?_⟩
    refine ⟨5, rfl, by omega, by decide, by decide, fun b b0 b1 => ?_⟩
    have sz : sizeLine = 16777216 := by decide +kernel
    have l1 := cutD_len xs none (some a)
    have l2 := cutD_len xs (some (a + 1)) none
    have l3 := cutD_len xs (some a) (some (a + 1))
    refine ⟨⟨cmp_flat rfl, cmp_flat rfl⟩, ?_⟩
    refine ite2 (fun c => ?_) (fun c => ?_)
    · exact ⟨by omega, (k _ _ (by omega) (by omega) (fun y hy => .inl (by rcases List.mem_append.mp hy with z | z <;> exact cutD_mem z)) (by rw [List.length_append]; omega)).1⟩
    refine ⟨⟨cmp_flat rfl, cmp_flat rfl⟩, ?_⟩
    refine ite2 (fun c => ?_) (fun c => ?_)
    · exact ⟨by omega, (k _ _ (by omega) (by omega) (fun y hy => .inl (by rcases List.mem_append.mp hy with z | z <;> first | exact z | exact cutD_mem z)) (by rw [List.length_append]; omega)).1⟩
    refine ⟨⟨cmp_flat rfl, cmp_flat rfl⟩, ?_⟩
    refine ite2 (fun c => ?_) (fun c => ?_)
    · refine ⟨rfl, by omega, fun v hv => ?_⟩
      refine ⟨by show 1 ≤ sizeLine; decide, ⟨by show _ + 1 ≤ sizeLine; omega, ?_⟩⟩
      refine ⟨by rw [List.length_append, List.length_singleton]; omega, (k _ _ (by omega) (by omega) (fun y hy => ?_) (by rw [List.length_append, List.length_append, List.length_singleton]; omega)).1⟩
      rcases List.mem_append.mp hy with z | z
      · rcases List.mem_append.mp z with z | z
        · exact .inl (cutD_mem z)
        · exact .inr (List.mem_singleton.mp z ▸ hv)
      · exact .inl (cutD_mem z)
    refine ⟨⟨cmp_flat rfl, cmp_flat rfl⟩, ?_⟩
    refine ite2 (fun c => ?_) (fun c => ?_)
    · exact (k _ _ (by omega) (by omega) (fun y hy => .inl (List.mem_reverse.mp hy)) (by rw [List.length_reverse]; omega)).1
    · exact (k _ _ (by omega) (by omega) (fun y hy => .inl hy) (by omega)).2
  · obtain ⟨xs, rfl, _⟩ := h
    rfl
end
end Aim

namespace Aim
open PySem PySem.Spec PyProof.Rows L2 RZ
open LamX (TabB)
section
variable {P : Program} {w : World} {K : PySem.W.Frag} {mg : Str → Option Value} {base : Heap} {TT : List (Addr × Str)}
theorem flatS_K {d : Dat} (h : flatS d) : flatK d = true := by
  cases d <;> first | rfl | cases h
theorem flatK_plain {d : Dat} (h : flatK d = true) : plain d = true := by
  cases d <;> first | rfl | cases h
theorem plains_of : ∀ {xs : List Dat}, (∀ x ∈ xs, plain x = true) → plains xs = true
  | [], _ => rfl
  | x :: xs, h => by
    show (plain x && plains xs) = true
    rw [h x (by simp), plains_of fun y hy => h y (by simp [hy])]
    rfl
theorem depths_le {k : Nat} : ∀ {xs : List Dat}, (∀ x ∈ xs, (py x).depth ≤ k) → PyData.depthAll (pys xs) ≤ k
  | [], _ => Nat.zero_le _
  | x :: xs, h => by
    show max (py x).depth (PyData.depthAll (pys xs)) ≤ k
    exact Nat.max_le.mpr ⟨h x (by simp), depths_le fun y hy => h y (by simp [hy])⟩
theorem flat_depth {d : Dat} (h : flatK d = true) (k : Nat) : (py d).depth ≤ k := by
  cases d <;> first | exact Nat.zero_le _ | cases h
theorem InV.cmp : ∀ {k : Nat} {d : Dat}, InV k d → plain d = true ∧ (py d).depth ≤ k + 1
  | 0, d, h => ⟨flatK_plain (flatS_K h), flat_depth (flatS_K h) _⟩
  | k + 1, d, h => by
    rcases h with h | ⟨xs, rfl, l, q⟩
    · exact ⟨flatK_plain (flatS_K h), flat_depth (flatS_K h) _⟩
    · refine ⟨plains_of fun x hx => (q x hx).cmp.1, ?_⟩
      have := depths_le (k := k + 1) fun x hx => (q x hx).cmp.2
      show PyData.depthAll (pys xs) + 1 ≤ _
      omega
theorem str_small {i : Int} (h0 : -1 ≤ i) (h1 : i ≤ 1000) : StrB (toString i : Str) ∧ (toString i : Str).cps.size ≤ 100 := by
  have h : ∀ j < 1002, ((decide ((toString ((j : Nat) - 1 : Int) : Str).length ≤ sizeLine) && (toString ((j : Nat) - 1 : Int) : Str).cps.all (fun c => decide (c < 0x110000))) && decide ((toString ((j : Nat) - 1 : Int) : Str).cps.size ≤ 100)) = true := by decide +kernel
  have z := h (i + 1).toNat (by omega)
  rw [show (((i + 1).toNat : Nat) - 1 : Int) = i by omega, Bool.and_eq_true] at z
  exact ⟨strB_dec z.1, of_decide_eq_true z.2⟩
theorem InV.or {j : Nat} {d : Dat} (h : InV j d) : flatS d ∨ ∃ i xs, j = i + 1 ∧ d = .tup xs ∧ xs.length ≤ 500 ∧ ∀ x ∈ xs, InV i x := by
  cases j with
  | zero => exact .inl h
  | succ i =>
    rcases h with h | ⟨xs, e, l, q⟩
    · exact .inl h
    · exact .inr ⟨i, xs, rfl, e, l, q⟩
theorem cutS_len (x : Str) (lo hi : Option Int) : (cutS x lo hi).cps.size ≤ x.cps.size := by
  unfold cutS
  show (List.toArray _).size ≤ _
  rw [List.size_toArray, List.length_take, List.length_drop, Array.length_toList]
  omega
theorem cmp_nil : cmpOk (.tup []) := ⟨rfl, by decide⟩
def spBent (deep : Nat) : DSp := fun ds n Q _ => ∃ (j : Nat) (d : Dat), ds = [.pot, d, .int deep] ∧ j ≤ 20 ∧ InV j d ∧ n + 20 * (deep + 1) < 800000 ∧ ∀ v m, n ≤ m → m ≤ n + 20 * (deep + 1) → OutV (j + 2) v → Q v m
theorem sc__law_bent : FnScope ["_law_pot_here", "_law_value", "_law_deep", "_law_kind", "_law_some", "_law_at", "_law_inner"] ["_law_pot_here", "_law_value", "_law_deep"] (defScope (top 35)) := ⟨rfl, rfl, rfl, by decide +kernel, rfl, by decide +kernel, by decide +kernel⟩
theorem bent_step {G : Bool} {deep : Nat} {sp0 : DSp} (F : Has K mg "_law_bent" (top 35)) (T : Blt mg) (D__law_take : Df P w K mg base false 1 "_law_take" (LSp K TT spTake)) (D__law_is : Df P w K mg base false 1 "_law_is" (LSp K TT spIs)) (D__law_odd : Df P w K mg base false 3 "_law_odd" (LSp K TT spOdd)) (D__law_name : Df P w K mg base false 4 "_law_name" (LSp K TT spName)) (D__law_bent_row : Df P w K mg base false 4 "_law_bent_row" (LSp K TT spRow))
    (D__law_bent : Df P w K mg base G (deep + 4) "_law_bent" (LSp K TT sp0)) (hc : ∀ (d' : Nat), deep = d' + 1 → ∀ ds n Q R, spBent d' ds n Q R → sp0 ds n Q R) : Df P w K mg base G (deep + 5) "_law_bent" (LSp K TT (spBent deep)) := by
  refine dat_ok F (fun f fd F => F.binds (fun _ _ _ _ _ _ us hl => match us, hl with | [_, _, _], _ => rfl)) sc__law_bent (fun f cdv A outer s H E hr hG => ⟨_, (dss_cons (ds_if (PW.pt (dw_and (dt_val (de_cb (cd_isT (T := "tuple") (by simp)) (pe_callB call_isi rfl T.n_isinstance boot_isinstance (da_cons (de_var (pv 1)) (da_cons (de_c (pe_bltn (v := .ty "tuple") rfl T.n_tuple boot_tuple rfl) (fun _ _ => .ty _)) da_nil))))) (dw_and1 (dt_cmp (op_neDD hr.units) od_ne (de_var (pv 1)) (de_tup da_nil) (nomark _))))) (dss_cons (ds_if (PW.pt (dw_and (dt_cmp op_gt (od_IB _) (de_var (pv 2)) de_int (nomark _)) (dw_and1 (dt_cmp op_gt (od_IB _) (de_call D__law_take hr (by first | decide | omega) (by first | exact hG | (intro z; cases z)) rfl passL (da_cons (de_var (pv 0)) (da_cons de_int da_nil))) de_int (nomark _))))) (dss_cons (ds_set (i := 5) sc__law_bent.nd rfl (Or.inl rfl) (de_call D__law_take hr (by first | decide | omega) (by first | exact hG | (intro z; cases z)) rfl passL (da_cons (de_var (pv 0)) (da_cons (de_cb cd_len (pe_callB call_len rfl T.n_len boot_len (da_cons (de_var (pv 1)) da_nil))) da_nil))))
      (dss_cons (ds_set (i := 6) sc__law_bent.nd rfl (Or.inl rfl) (de_call D__law_bent hr (by first | decide | omega) (by first | exact hG | (intro z; cases z)) rfl passL (da_cons (de_var (pv 0)) (da_cons (de_ix ix_seq od_ix (de_var (pv 1)) (de_var (pv 5)) (fun _ _ => rfl)) (da_cons (de_op op_sub (od_II _) (de_var (pv 2)) de_int) da_nil)))))
      (dss_one (ds_ret (de_op op_addAny od_add (de_op op_addAny od_add (de_sl (de_var (pv 1)) do_none (do_some (de_var (pv 5)))) (de_tup (da_cons (de_var (pv 6)) da_nil))) (de_sl (de_var (pv 1)) (do_some (de_op op_addAny od_add (de_var (pv 5)) de_int)) do_none)))))) dss_nil)
      (dss_one (ds_ret (de_call D__law_bent_row hr (by first | decide | omega) (by first | exact hG | (intro z; cases z)) rfl passL (da_cons (de_var (pv 0)) (da_cons (de_var (pv 1)) da_nil)))))) dss_nil)
      (dss_cons (ds_set (i := 3) sc__law_bent.nd rfl (Or.inl rfl) (de_call D__law_take hr (by first | decide | omega) (by first | exact hG | (intro z; cases z)) rfl passL (da_cons (de_var (pv 0)) (da_cons de_int da_nil))))
      (dss_cons (ds_if (dt_val (de_call D__law_is hr (by first | decide | omega) (by first | exact hG | (intro z; cases z)) rfl passL (da_cons de_str (da_cons (de_var (pv 1)) da_nil)))) (dss_cons (ds_set (i := 4) sc__law_bent.nd rfl (Or.inl rfl) (de_lst (da_cons (de_op op_addAny od_add (de_var (pv 1)) de_int) (da_cons (de_op op_sub (od_II _) (de_var (pv 1)) de_int) (da_cons (de_op op_sub (od_II _) (de_neg (de_var (pv 1))) de_int) (da_cons de_non (da_cons (de_cmp (op_eqDD hr.units) od_eq (de_var (pv 1)) de_int (nomark _)) (da_cons (de_cb cd_str (pe_callTy call_str_int rfl T.n_str boot_str (da_cons (de_var (pv 1)) da_nil))) da_nil))))))))
      (dss_one (ds_ret (de_ix ix_seq od_ix (de_var (pv 4)) (de_var (pv 3)) (fun _ _ => rfl))))) dss_nil)
      (dss_cons (ds_if (PW.pt (dw_or (dt_not (dt_val (de_cb (cd_isT (T := "str") (by simp)) (pe_callB call_isi rfl T.n_isinstance boot_isinstance (da_cons (de_var (pv 1)) (da_cons (de_c (pe_bltn (v := .ty "str") rfl T.n_str boot_str rfl) (fun _ _ => .ty _)) da_nil)))))) (dw_or1 (dt_cmp (op_eqDD hr.units) od_eq (de_var (pv 3)) de_int (nomark _))))) (dss_one (ds_ret (de_call D__law_odd hr (by first | decide | omega) (by first | exact hG | (intro z; cases z)) rfl passL (da_cons (de_var (pv 0)) da_nil)))) dss_nil)
      (dss_cons (ds_set (i := 4) sc__law_bent.nd rfl (Or.inl rfl) (de_lst (da_cons (de_op op_addAny od_add (de_var (pv 1)) de_str) (da_cons (de_sl (de_var (pv 1)) (do_some de_int) do_none) (da_cons (de_op op_addAny od_add (de_var (pv 1)) de_str) (da_cons (de_tup (da_cons (de_var (pv 1)) da_nil)) da_nil))))))
      (dss_one (ds_ret (de_if (dt_cmp (op_eqDD hr.units) od_eq (de_var (pv 3)) de_int (nomark _)) (de_call D__law_name hr (by first | decide | omega) (by first | exact hG | (intro z; cases z)) rfl passL (da_cons (de_var (pv 0)) da_nil)) (de_ix ix_seq od_ix (de_var (pv 4)) (de_op op_sub (od_II _) (de_var (pv 3)) de_int) (fun _ _ => rfl)))))))))), fun ds n PP R h => ?_⟩) (fun ds n PP R h => ?_)
  · obtain ⟨j, d, rfl, hj, hd, hn, k⟩ := h
    refine ⟨rfl, rfl, ?_⟩
    have odd : ∀ m, m ≤ n + 5 → n ≤ m → spOdd [.pot] m PP R0 := fun m hm h0 => ⟨rfl, by omega, fun v hv => k v _ (by omega) (by omega) (odd_out v hv)⟩
    have sz : sizeLine = 16777216 := by decide +kernel
    rcases hd.or with hf | ⟨j, xs, rfl, rfl, hl, hxs⟩
    · match d, hf with
      | .non, _ =>
        refine ⟨6, rfl, by omega, by decide, by decide, fun r r0 r1 => ⟨"int", .non, rfl, rfl, ?_⟩⟩
        exact ⟨rfl, odd _ (by omega) (by omega)⟩
      | .bl b, _ =>
        refine ⟨6, rfl, by omega, by decide, by decide, fun r r0 r1 => ⟨"int", .bl b, rfl, rfl, ?_⟩⟩
        exact ⟨rfl, odd _ (by omega) (by omega)⟩
      | .int i, hi =>
        refine ⟨6, rfl, by omega, by decide, by decide, fun r r0 r1 => ⟨"int", .int i, rfl, rfl, ?_⟩⟩
        have hs := str_small hi.1 hi.2
        refine ⟨⟨cmp_flat rfl, cmp_flat rfl⟩, ⟨?_, hs.1, by show 6 ≤ sizeLine; decide, ?_⟩⟩
        · by_cases hz : i.natAbs = 0
          · rw [hz]
            decide
          · exact Nat.lt_trans ((Nat.log2_lt hz).mpr (show i.natAbs < 2 ^ 10 by have := hi.1; have := hi.2; omega)) (by decide)
        obtain ⟨v, hv, e⟩ := atI_of (xs := [.int (i + 1), .int (i - 1), .int (-i - 1), .non, .bl (eqD (.int i) (.int 1)), .str (toString i)]) r0 r1
        show optD (atI ([.int (i + 1), .int (i - 1), .int (-i - 1), .non, .bl (eqD (.int i) (.int 1)), .str (toString i)] : List Dat) r) _
        rw [e]
        refine k v _ (by omega) (by omega) (.flat ?_ _)
        simp only [List.mem_cons, List.not_mem_nil, or_false] at hv
        rcases hv with rfl | rfl | rfl | rfl | rfl | rfl <;> first | trivial | exact hs.2
      | .str x, hx =>
        refine ⟨6, rfl, by omega, by decide, by decide, fun r r0 r1 => ⟨"int", .str x, rfl, rfl, ?_⟩⟩
        have hx : x.cps.size ≤ 60 := hx
        refine ⟨rfl, ⟨cmp_flat rfl, cmp_flat rfl⟩, ?_⟩
        refine ite2 (fun c => odd _ (by omega) (by omega)) (fun c => ?_)
        have c : r ≠ 0 := by simpa [eqD, py, PyData.eqv] using c
        have one : ∀ c : Nat, (x ++ (⟨#[c]⟩ : Str)).cps.size ≤ 100 := fun c => by
          show (x.cps ++ #[c]).size ≤ 100
          rw [Array.size_append]
          show x.cps.size + 1 ≤ 100
          omega
        refine ⟨by show x.cps.size + 1 ≤ sizeLine; omega, by show x.cps.size + 1 ≤ sizeLine; omega, by show 1 ≤ sizeLine; decide, by show 4 ≤ sizeLine; decide, ?_⟩
        refine ⟨⟨cmp_flat rfl, cmp_flat rfl⟩, ?_⟩
        refine ite2 (fun c2 => ?_) (fun c2 => ?_)
        · refine ⟨rfl, by omega, fun z m hz h1 h2 => k _ _ (by omega) (by omega) (.flat (show _ ≤ 100 by have := hz.2.1; omega) _)⟩
        · have c2 : r ≠ 1 := by simpa [eqD, py, PyData.eqv] using c2
          obtain ⟨v, hv, e⟩ := atI_of (xs := [.str (x ++ "a"), .str (cutS x (some 1) none), .str (x ++ "A"), .tup [.str x]]) (r := r - 2) (by omega) (by show r - 2 < 4; omega)
          show optD (atI ([.str (x ++ "a"), .str (cutS x (some 1) none), .str (x ++ "A"), .tup [.str x]] : List Dat) (r - 2)) _
          rw [e]
          refine k v _ (by omega) (by omega) ?_
          simp only [List.mem_cons, List.not_mem_nil, or_false] at hv
          rcases hv with rfl | rfl | rfl | rfl
          · exact .flat (d := .str (x ++ "a")) (one _) _
          · exact .flat (d := .str (cutS x (some 1) none)) (Nat.le_trans (cutS_len x _ _) (Nat.le_trans hx (by decide))) _
          · exact .flat (d := .str (x ++ "A")) (one _) _
          · exact .inr ⟨_, .inl rfl, by show 1 ≤ 1001; decide, fun y hy => by rw [List.mem_singleton.mp hy]; exact .flat (d := .str x) (show x.cps.size ≤ 100 by omega) _⟩
    · have hcmp := hd.cmp
      refine ⟨by show 0 ≤ sizeLine; decide, ⟨⟨hcmp.1, by omega⟩, cmp_nil⟩, ?_⟩
      match xs with
      | [] =>
        refine ⟨6, rfl, by omega, by decide, by decide, fun r r0 r1 => ⟨"int", .tup [], rfl, rfl, ?_⟩⟩
        exact ⟨rfl, odd _ (by omega) (by omega)⟩
      | x :: xs =>
        have hn0 : 0 < (x :: xs).length := Nat.succ_pos _
        have mem : ∀ y ∈ x :: xs, OutV (j + 2) y := fun y hy => (hxs y hy).out.le (by omega)
        generalize x :: xs = zs at *
        have row : ∀ m, n ≤ m → m ≤ n + 10 → spRow [.pot, .tup zs] m PP R0 := fun m h0 h1 => ⟨zs, rfl, by omega, hn0, hl, fun ys m' h2 h3 hy hlen => by
          have hm : ∀ y ∈ ys, OutV (j + 2) y := fun y hy' => by
            rcases hy y hy' with z | z
            · exact mem y z
            · exact odd_out y z
          exact ⟨k _ _ (by omega) (by omega) (.inr ⟨ys, .inl rfl, by omega, hm⟩), k _ _ (by omega) (by omega) (.inr ⟨ys, .inr rfl, by omega, hm⟩)⟩⟩
        have hne : (!eqD (.tup zs) (.tup [])) = true := by
          match zs, hn0 with
          | z :: zs, _ => rfl
        show if (!eqD (.tup zs) (.tup [])) = true then _ else _
        rw [hne]
        refine iteT ?_
        refine ite2 (fun c => ?_) (fun c => row _ (by omega) (by omega))
        obtain ⟨d', rfl⟩ : ∃ d', deep = d' + 1 := ⟨deep - 1, by have h0 : (0 : Int) < deep := (by simpa using c); omega⟩
        refine ⟨5, rfl, by omega, by decide, by decide, fun r r0 r1 => ?_⟩
        refine ite2 (fun c2 => ?_) (fun c2 => row _ (by omega) (by omega))
        refine ⟨(zs.length : Nat), rfl, by omega, by omega, by omega, fun a a0 a1 => ?_⟩
        obtain ⟨v, hv, ha⟩ := atI_of a0 a1
        show optD (atI zs a) _
        rw [ha]
        refine hc d' rfl _ _ _ _ ⟨j, v, by simp, by omega, hxs v hv, by omega, fun u m h0 h1 hu => ?_⟩
        have l1 := cutD_len zs none (some a)
        have l2 := cutD_len zs (some (a + 1)) none
        refine ⟨by show 1 ≤ sizeLine; decide, by show _ + 1 ≤ sizeLine; omega, ?_⟩
        refine ⟨by rw [List.length_append, List.length_singleton]; omega, k _ _ (by omega) (by omega) (.inr ⟨_, .inl rfl, by rw [List.length_append, List.length_append, List.length_singleton]; omega, fun y hy => ?_⟩)⟩
        rcases List.mem_append.mp hy with z | z
        · rcases List.mem_append.mp z with z | z
          · exact mem y (cutD_mem z)
          · rw [List.mem_singleton.mp z]
            exact hu
        · exact mem y (cutD_mem z)
  · obtain ⟨j, d, rfl, _⟩ := h
    rfl
theorem ok_bent {G : Bool} (F : Has K mg "_law_bent" (top 35)) (T : Blt mg) (D__law_take : Df P w K mg base false 1 "_law_take" (LSp K TT spTake)) (D__law_is : Df P w K mg base false 1 "_law_is" (LSp K TT spIs)) (D__law_odd : Df P w K mg base false 3 "_law_odd" (LSp K TT spOdd)) (D__law_name : Df P w K mg base false 4 "_law_name" (LSp K TT spName)) (D__law_bent_row : Df P w K mg base false 4 "_law_bent_row" (LSp K TT spRow)) : ∀ deep, Df P w K mg base G (deep + 5) "_law_bent" (LSp K TT (spBent deep))
  | 0 => bent_step (sp0 := fun _ _ _ _ => False) F T D__law_take D__law_is D__law_odd D__law_name D__law_bent_row (.none (ps := ["_law_pot_here", "_law_value", "_law_deep"]) F fun f fd F => F.binds (fun _ _ _ _ _ _ us hl => match us, hl with | [_, _, _], _ => rfl)) fun d' e => by cases e
  | deep + 1 => bent_step F T D__law_take D__law_is D__law_odd D__law_name D__law_bent_row (ok_bent F T D__law_take D__law_is D__law_odd D__law_name D__law_bent_row deep) fun d' e ds n Q R h => by cases e; exact h
end
end Aim

namespace Aim
open PySem PySem.Spec PyProof.Rows L2 RZ
open LamX (TabB)
section
variable {P : Program} {w : World} {K : PySem.W.Frag} {mg : Str → Option Value} {base : Heap} {TT : List (Addr × Str)}
/-- the modules' constants -/
structure Cst (K : PySem.W.Frag) (mg : Str → Option Value) : Prop where
  g_LETTERS : GC K mg "LETTERS" (.str abc)
  g_MOST_LETTERS : GC K mg "MOST_LETTERS" (.int 8)
  g_FEED : GC K mg "FEED" (.str "\n")
  g_BLANK : GC K mg "BLANK" (.str " ")
  g_PAIR : GC K mg "PAIR" (.int 2)
  g_BARE_STEPS : GC K mg "BARE_STEPS" (.tup [.str "tick", .str "forget", .str "down", .str "up"])
  g_NAMED_STEPS : GC K mg "NAMED_STEPS" (.tup [.str "announce", .str "update", .str "look"])
theorem sc_is_name : FnScope ["value", "letter"] ["value"] (defScope (top 3)) := ⟨rfl, rfl, rfl, by decide +kernel, rfl, by decide +kernel, by decide +kernel⟩
theorem ok_p_is_name {G : Bool} (F : Has K mg "is_name" (top 3)) (T : Blt mg) (Y : Cst K mg) : Df P w K mg base G 1 "is_name" (LSp K TT spIsName) := by
  refine dat_ok F (fun f fd F => F.binds (fun _ _ _ _ _ _ us hl => match us, hl with | [_], _ => rfl)) sc_is_name (fun f cdv A outer s H E hr hG => ⟨_, (dss_cons (ds_if (PW.pt (dw_or (dt_not (dt_val (de_cb (cd_isT (T := "str") (by simp)) (pe_callB call_isi rfl T.n_isinstance boot_isinstance (da_cons (de_var (pv 0)) (da_cons (de_c (pe_bltn (v := .ty "str") rfl T.n_str boot_str rfl) (fun _ _ => .ty _)) da_nil)))))) (dw_or1 (dt_not (dt_chain op_le op_le (od_IB _) (od_IB _) de_int (de_cb cd_len (pe_callB call_len rfl T.n_len boot_len (da_cons (de_var (pv 0)) da_nil))) (de_g rfl Y.g_MOST_LETTERS)))))) (dss_one (ds_ret de_bl)) dss_nil)
      (dss_one (ds_ret (de_cb cd_all (pe_callB (cr_all rfl) rfl T.n_all boot_all (da_cons (de_fr (lf_lcI (own := [("letter", 1)]) rfl sc_is_name.nd (di_str (de_var (pv 0))) (blkOk_by rfl) (fun _ _ _ _ _ => (dg_name (pg_name (i := 1) sc_is_name.nd rfl (Or.inl rfl) (Or.inr rfl)))) (fun _ _ _ _ _ => dts_nil) (fun _ _ _ _ _ => (de_cmp (op_inAny (units65 hr)) od_inAny (de_var (pv 1)) (de_g rfl Y.g_LETTERS) (by rfl))))) da_nil)))))), fun ds n PP R h => ?_⟩) (fun ds n PP R h => ?_)
  · obtain ⟨d, rfl, ht, k⟩ := h
    refine ⟨rfl, ?_⟩
    rcases str_or ht with ⟨x, rfl⟩ | ⟨t, e, e2⟩
    · refine ⟨rfl, ?_⟩
      have ok : ∀ (Q : Dat → Nat → Prop) (R' : RX), Q (.bl (x.cps.toList.all fun c => decide (c ∈ abc.cps.toList))) n → ∀ ρ : List Sl, ρ.length = 2 → compI [1] (dgName 1) (fun _ n P _ => P true n) (dOp gInAny (dVar 1) (dC (.str abc))) ρ (fun zs m => bools zs fun bs => Q (.bl (bs.all id)) m) (signs x) n := fun Q R' q ρ hρ => by
        refine compI_map inAbc (fun p hp Q q => ?_) ?_
        · obtain ⟨c, rfl⟩ := signs_mem hp
          match ρ, hρ with
          | [_, _], _ => exact .inr (.inr q)
        · rw [inAbc_signs]
          refine bools_map _ ?_
          rw [List.all_map]
          exact q
      refine ite2 (fun c => ?_) (fun c => ?_)
      · refine ite2 (fun c2 => ?_) (fun c2 => ?_)
        · have no : isName (.str x) = false := by
            have : ¬ x.cps.size ≤ 8 := by
              have c3 : ¬ ((x.length : Nat) : Int) ≤ 8 := by simpa using c2
              show ¬ x.length ≤ 8
              omega
            show (_ && _ && _) = false
            rw [decide_eq_false this, Bool.and_false, Bool.false_and]
          rw [no] at k
          exact k
        · refine ok _ R ?_ _ rfl
          have h1 : 1 ≤ x.cps.size := by
            have c3 : (1 : Int) ≤ ((x.length : Nat) : Int) := by simpa using c
            show 1 ≤ x.length
            omega
          have h2 : x.cps.size ≤ 8 := by
            have c3 : ((x.length : Nat) : Int) ≤ 8 := by simpa using c2
            show x.length ≤ 8
            omega
          have yes : isName (.str x) = x.cps.toList.all fun c => decide (c ∈ abc.cps.toList) := by
            show (_ && _ && _) = _
            rw [decide_eq_true h1, decide_eq_true h2]
            rfl
          rw [yes] at k
          exact k
      · have no : isName (.str x) = false := by
          have : ¬ 1 ≤ x.cps.size := by
            have c3 : ¬ (1 : Int) ≤ ((x.length : Nat) : Int) := by simpa using c
            show ¬ 1 ≤ x.length
            omega
          show (_ && _ && _) = false
          rw [decide_eq_false this, Bool.false_and, Bool.false_and]
        rw [no] at k
        exact k
    · refine ⟨rfl, ?_⟩
      refine ty_of ht fun t' e' => ?_
      rw [e] at e'
      cases e'
      show if (!isT "str" t) = true then _ else _
      rw [e2]
      have no : isName d = false := by
        cases d <;> first | rfl | (cases e; cases e2)
      rw [no] at k
      exact iteT k
  · obtain ⟨d, rfl, _⟩ := h
    rfl
/-! ### steps -/
def bareL : List Dat := [.str "tick", .str "forget", .str "down", .str "up"]
def namedL : List Dat := [.str "announce", .str "update", .str "look"]
def isStep : Dat → Bool
  | .tup [.str x] => bareL.any fun y => eqF y (.str x)
  | .tup [.str x, d] => (namedL.any fun y => eqF y (.str x)) && isName d
  | _ => false
/-- kinds known, to the members -/
def kdSt (d : Dat) : Prop := (tyK d).isSome = true ∧ ∀ ys, d = .tup ys → ∀ y ∈ ys, (tyK y).isSome = true
def spHas : DSp := fun ds n Q _ => ∃ d : Dat, ds = [d] ∧ kdSt d ∧ Q (.bl (isStep d)) n
theorem no_tup {d : Dat} {t : String} (e : tyK d = some t) (e2 : isT "tuple" t = false) : isStep d = false := by
  cases d <;> first | rfl | (cases e; cases e2)
theorem no_str {a : Dat} {t : String} (e : tyK a = some t) (e2 : isT "str" t = false) (ys : List Dat) : isStep (.tup (a :: ys)) = false := by
  match a, e, e2, ys with
  | .str x, e, e2, _ => cases e; cases e2
  | .non, _, _, [] => rfl
  | .non, _, _, [_] => rfl
  | .non, _, _, _ :: _ :: _ => rfl
  | .bl _, _, _, [] => rfl
  | .bl _, _, _, [_] => rfl
  | .bl _, _, _, _ :: _ :: _ => rfl
  | .int _, _, _, [] => rfl
  | .int _, _, _, [_] => rfl
  | .int _, _, _, _ :: _ :: _ => rfl
  | .byt _, _, _, [] => rfl
  | .byt _, _, _, [_] => rfl
  | .byt _, _, _, _ :: _ :: _ => rfl
  | .tup _, _, _, [] => rfl
  | .tup _, _, _, [_] => rfl
  | .tup _, _, _, _ :: _ :: _ => rfl
  | .lst _, _, _, [] => rfl
  | .lst _, _, _, [_] => rfl
  | .lst _, _, _, _ :: _ :: _ => rfl
  | .dct _ _, _, _, [] => rfl
  | .dct _ _, _, _, [_] => rfl
  | .dct _ _, _, _, _ :: _ :: _ => rfl
theorem iteT' {b : Bool} {A B : Prop} (h : b = true) (x : A) : if b = true then A else B := by rw [if_pos h]; exact x
theorem iteF' {b : Bool} {A B : Prop} (h : b = false) (x : B) : if b = true then A else B := by rw [if_neg (by rw [h]; decide)]; exact x
theorem notin12 {n : Nat} (h : 3 ≤ n) : (!([.int 1, .int 2] : List Dat).any fun y => eqF y (.int n)) = true := by
  have e : ∀ i : Int, eqF (.int i) (.int n) = (i == (n : Int)) := fun i => rfl
  simp only [List.any_cons, List.any_nil, e]
  rw [beq_eq_false_iff_ne.mpr (show (1 : Int) ≠ n by omega), beq_eq_false_iff_ne.mpr (show (2 : Int) ≠ n by omega)]
  rfl
theorem three_step (a b c : Dat) (r : List Dat) : isStep (.tup (a :: b :: c :: r)) = false := by
  cases a <;> rfl
theorem sc_has_step_form : FnScope ["value"] ["value"] (defScope (top 14)) := ⟨rfl, rfl, rfl, by decide +kernel, rfl, by decide +kernel, by decide +kernel⟩
theorem ok_has {G : Bool} (F : Has K mg "has_step_form" (top 14)) (T : Blt mg) (Y : Cst K mg) (D_is_name : Df P w K mg base false 1 "is_name" (LSp K TT spIsName)) : Df P w K mg base G 2 "has_step_form" (LSp K TT spHas) := by
  refine dat_ok F (fun f fd F => F.binds (fun _ _ _ _ _ _ us hl => match us, hl with | [_], _ => rfl)) sc_has_step_form (fun f cdv A outer s H E hr hG => ⟨_, (dss_cons (ds_if (PW.pt (dw_or (dt_not (dt_val (de_cb (cd_isT (T := "tuple") (by simp)) (pe_callB call_isi rfl T.n_isinstance boot_isinstance (da_cons (de_var (pv 0)) (da_cons (de_c (pe_bltn (v := .ty "tuple") rfl T.n_tuple boot_tuple rfl) (fun _ _ => .ty _)) da_nil)))))) (dw_or (dt_cmp (op_notInAny (units65 hr)) od_notInAny (de_cb cd_len (pe_callB call_len rfl T.n_len boot_len (da_cons (de_var (pv 0)) da_nil))) (de_tup (da_cons de_int (da_cons (de_g rfl Y.g_PAIR) da_nil))) (by rfl)) (dw_or1 (dt_not (dt_val (de_cb (cd_isT (T := "str") (by simp)) (pe_callB call_isi rfl T.n_isinstance boot_isinstance (da_cons (de_ix ix_seq od_ix (de_var (pv 0)) de_int (fun _ _ => rfl)) (da_cons (de_c (pe_bltn (v := .ty "str") rfl T.n_str boot_str rfl) (fun _ _ => .ty _)) da_nil)))))))))) (dss_one (ds_ret de_bl)) dss_nil)
      (dss_cons (ds_if (dt_cmp (op_eqDD hr.units) od_eq (de_cb cd_len (pe_callB call_len rfl T.n_len boot_len (da_cons (de_var (pv 0)) da_nil))) de_int (nomark _)) (dss_one (ds_ret (de_cmp (op_inAny (units65 hr)) od_inAny (de_ix ix_seq od_ix (de_var (pv 0)) de_int (fun _ _ => rfl)) (de_g rfl Y.g_BARE_STEPS) (by rfl)))) dss_nil)
      (dss_one (ds_ret (de_and (de_cmp (op_inAny (units65 hr)) od_inAny (de_ix ix_seq od_ix (de_var (pv 0)) de_int (fun _ _ => rfl)) (de_g rfl Y.g_NAMED_STEPS) (by rfl)) (de_one (de_call D_is_name hr (by first | decide | omega) (by first | exact hG | (intro z; cases z)) rfl passL (da_cons (de_ix ix_seq od_ix (de_var (pv 0)) de_int (fun _ _ => rfl)) da_nil)))))))), fun ds n PP R h => ?_⟩) (fun ds n PP R h => ?_)
  · obtain ⟨d, rfl, ⟨ht, hy⟩, k⟩ := h
    refine ⟨rfl, rfl, ?_⟩
    rcases tup_or ht with ⟨ys, rfl⟩ | ⟨t, e, e2⟩
    · have hy := hy ys rfl
      have one : ∀ {a : Dat} {Q : String → Prop}, a ∈ ys → (∀ t, tyK a = some t → Q t) → optD (tyK a) Q := fun ha q => ty_of (hy _ ha) q
      refine ⟨by show 2 ≤ sizeLine; decide, .inr ⟨⟨rfl, rfl⟩, ?_⟩⟩
      match ys with
      | [] => exact k
      | [a] =>
        rcases str_or (hy a (by simp)) with ⟨x, rfl⟩ | ⟨t, e, e2⟩
        · exact ⟨rfl, ⟨cmp_flat rfl, cmp_flat rfl⟩, .inr (.inl ⟨⟨rfl, rfl⟩, k⟩)⟩
        · refine ⟨rfl, one (by simp) fun t' e' => ?_⟩
          rw [e] at e'
          cases e'
          show if (!isT "str" t) = true then _ else _
          rw [e2]
          rw [no_str e e2] at k
          exact iteT k
      | [a, b] =>
        rcases str_or (hy a (by simp)) with ⟨x, rfl⟩ | ⟨t, e, e2⟩
        · refine ⟨rfl, ⟨cmp_flat rfl, cmp_flat rfl⟩, .inr (.inl ⟨⟨rfl, rfl⟩, ?_⟩)⟩
          have k : PP (.bl ((namedL.any fun y => eqF y (.str x)) && isName b)) n := k
          refine ite2 (fun c => ?_) (fun c => ?_)
          · rw [show (namedL.any fun y => eqF y (.str x)) = true from c, Bool.true_and] at k
            exact ⟨b, rfl, hy b (by simp), k⟩
          · rw [show (namedL.any fun y => eqF y (.str x)) = false from Bool.eq_false_iff.mpr c, Bool.false_and] at k
            exact k
        · refine ⟨rfl, one (by simp) fun t' e' => ?_⟩
          rw [e] at e'
          cases e'
          show if (!isT "str" t) = true then _ else _
          rw [e2]
          rw [no_str e e2] at k
          exact iteT k
      | a :: b :: c :: r =>
        rw [three_step] at k
        exact k
    · refine ty_of ht fun t' e' => ?_
      rw [e] at e'
      cases e'
      show if (!isT "tuple" t) = true then _ else _
      rw [e2]
      rw [no_tup e e2] at k
      exact iteT k
  · obtain ⟨d, rfl, _⟩ := h
    rfl
theorem sc__law_is_step : FnScope ["_law_value"] ["_law_value"] (defScope (top 37)) := ⟨rfl, rfl, rfl, by decide +kernel, rfl, by decide +kernel, by decide +kernel⟩
theorem ok_is_step {G : Bool} (F : Has K mg "_law_is_step" (top 37)) (T : Blt mg) (D__law_is_name : Df P w K mg base false 1 "_law_is_name" (LSp K TT spIsName)) : Df P w K mg base G 2 "_law_is_step" (LSp K TT spHas) := by
  refine dat_ok F (fun f fd F => F.binds (fun _ _ _ _ _ _ us hl => match us, hl with | [_], _ => rfl)) sc__law_is_step (fun f cdv A outer s H E hr hG => ⟨_, (dss_cons (ds_if (PW.pt (dw_or (dt_not (dt_val (de_cb (cd_isT (T := "tuple") (by simp)) (pe_callB call_isi rfl T.n_isinstance boot_isinstance (da_cons (de_var (pv 0)) (da_cons (de_c (pe_bltn (v := .ty "tuple") rfl T.n_tuple boot_tuple rfl) (fun _ _ => .ty _)) da_nil)))))) (dw_or (dt_not (dt_chain op_le op_le (od_IB _) (od_IB _) de_int (de_cb cd_len (pe_callB call_len rfl T.n_len boot_len (da_cons (de_var (pv 0)) da_nil))) de_int)) (dw_or1 (dt_not (dt_val (de_cb (cd_isT (T := "str") (by simp)) (pe_callB call_isi rfl T.n_isinstance boot_isinstance (da_cons (de_ix ix_seq od_ix (de_var (pv 0)) de_int (fun _ _ => rfl)) (da_cons (de_c (pe_bltn (v := .ty "str") rfl T.n_str boot_str rfl) (fun _ _ => .ty _)) da_nil)))))))))) (dss_one (ds_ret de_bl)) dss_nil)
      (dss_cons (ds_if (dt_cmp (op_eqDD hr.units) od_eq (de_cb cd_len (pe_callB call_len rfl T.n_len boot_len (da_cons (de_var (pv 0)) da_nil))) de_int (nomark _)) (dss_one (ds_ret (de_cmp (op_inAny (units65 hr)) od_inAny (de_ix ix_seq od_ix (de_var (pv 0)) de_int (fun _ _ => rfl)) (de_tup (da_cons de_str (da_cons de_str (da_cons de_str (da_cons de_str da_nil))))) (by rfl)))) dss_nil)
      (dss_one (ds_ret (de_and (de_cmp (op_inAny (units65 hr)) od_inAny (de_ix ix_seq od_ix (de_var (pv 0)) de_int (fun _ _ => rfl)) (de_tup (da_cons de_str (da_cons de_str (da_cons de_str da_nil)))) (by rfl)) (de_one (de_call D__law_is_name hr (by first | decide | omega) (by first | exact hG | (intro z; cases z)) rfl passL (da_cons (de_ix ix_seq od_ix (de_var (pv 0)) de_int (fun _ _ => rfl)) da_nil)))))))), fun ds n PP R h => ?_⟩) (fun ds n PP R h => ?_)
  · obtain ⟨d, rfl, ⟨ht, hy⟩, k⟩ := h
    refine ⟨rfl, rfl, ?_⟩
    rcases tup_or ht with ⟨ys, rfl⟩ | ⟨t, e, e2⟩
    · have hy := hy ys rfl
      have one : ∀ {a : Dat} {Q : String → Prop}, a ∈ ys → (∀ t, tyK a = some t → Q t) → optD (tyK a) Q := fun ha q => ty_of (hy _ ha) q
      match ys with
      | [] => exact k
      | [a] =>
        rcases str_or (hy a (by simp)) with ⟨x, rfl⟩ | ⟨t, e, e2⟩
        · exact ⟨rfl, ⟨cmp_flat rfl, cmp_flat rfl⟩, by show 4 ≤ sizeLine; decide, .inr (.inl ⟨⟨rfl, rfl⟩, k⟩)⟩
        · refine ⟨rfl, one (by simp) fun t' e' => ?_⟩
          rw [e] at e'
          cases e'
          show if (!isT "str" t) = true then _ else _
          rw [e2]
          rw [no_str e e2] at k
          exact iteT k
      | [a, b] =>
        rcases str_or (hy a (by simp)) with ⟨x, rfl⟩ | ⟨t, e, e2⟩
        · refine ⟨rfl, ⟨cmp_flat rfl, cmp_flat rfl⟩, by show 3 ≤ sizeLine; decide, .inr (.inl ⟨⟨rfl, rfl⟩, ?_⟩)⟩
          have k : PP (.bl ((namedL.any fun y => eqF y (.str x)) && isName b)) n := k
          refine ite2 (fun c => ?_) (fun c => ?_)
          · rw [show (namedL.any fun y => eqF y (.str x)) = true from c, Bool.true_and] at k
            exact ⟨b, rfl, hy b (by simp), k⟩
          · rw [show (namedL.any fun y => eqF y (.str x)) = false from Bool.eq_false_iff.mpr c, Bool.false_and] at k
            exact k
        · refine ⟨rfl, one (by simp) fun t' e' => ?_⟩
          rw [e] at e'
          cases e'
          show if (!isT "str" t) = true then _ else _
          rw [e2]
          rw [no_str e e2] at k
          exact iteT k
      | a :: b :: c :: r =>
        have l3 : ¬ decide (((a :: b :: c :: r).length : Int) ≤ 2) = true := by
          rw [decide_eq_true_eq]
          simp only [List.length_cons]
          omega
        have l1 : decide ((1 : Int) ≤ ((a :: b :: c :: r).length : Nat)) = true := by
          rw [decide_eq_true_eq]
          simp only [List.length_cons]
          omega
        rw [three_step] at k
        refine iteT' l1 ?_
        exact k
    · refine ty_of ht fun t' e' => ?_
      rw [e] at e'
      cases e'
      show if (!isT "tuple" t) = true then _ else _
      rw [e2]
      rw [no_tup e e2] at k
      exact iteT k
  · obtain ⟨d, rfl, _⟩ := h
    rfl
end
end Aim

namespace Aim
open PySem PySem.Spec PyProof.Rows L2 RZ
open LamX (TabB)
section
variable {P : Program} {w : World} {K : PySem.W.Frag} {mg : Str → Option Value} {base : Heap} {TT : List (Addr × Str)}
structure Errs (P : Program) (K : PySem.W.Frag) (mg : Str → Option Value) (stI : Stmt) (fI AE C_BadRun C_BadText : Addr) : Prop where
  ini : AimI P K stI fI AE
  c_BadRun : AimC K fI AE C_BadRun
  m_BadRun : mg "BadRun" = some (.ref C_BadRun)
  c_BadText : AimC K fI AE C_BadText
  m_BadText : mg "BadText" = some (.ref C_BadText)
  x_BadRun : PySem.W.exmOne K (.ref C_BadRun) (.ref AE) = some true
  x_BadText : PySem.W.exmOne K (.ref C_BadText) (.ref AE) = some true
  i_BadRun : PySem.W.kitOne K (.ref C_BadRun) (.ref C_BadRun) = some true
  i_BadText : PySem.W.kitOne K (.ref C_BadText) (.ref C_BadText) = some true
/-- a word of a step -/
def isWd (x : Str) : Prop := 1 ≤ x.cps.size ∧ x.cps.size ≤ 8 ∧ ∀ c ∈ x.cps.toList, isLet c
theorem abc_let {c : Nat} (h : c ∈ abc.cps.toList) : isLet c := by
  have e : abc.cps.toList.all (fun c => decide (97 ≤ c) && decide (c ≤ 122)) = true := by decide +kernel
  have z := List.all_eq_true.mp e c h
  simp only [Bool.and_eq_true, decide_eq_true_eq] at z
  exact z
theorem name_wd {d : Dat} (h : isName d = true) : ∃ x, d = .str x ∧ isWd x := by
  cases d <;> first | cases h | skip
  rename_i x
  have z : (decide (1 ≤ x.cps.size) && decide (x.cps.size ≤ 8) && x.cps.toList.all fun c => decide (c ∈ abc.cps.toList)) = true := h
  simp only [Bool.and_eq_true, decide_eq_true_eq, List.all_eq_true] at z
  exact ⟨x, rfl, z.1.1, z.1.2, fun c hc => abc_let (z.2 c hc)⟩
theorem word_wd {l : List Str} (hl : ∀ y ∈ l, isWd y) {x : Str} (h : ((l.map Dat.str).any fun y => eqF y (.str x)) = true) : isWd x := by
  obtain ⟨y, hy, e⟩ := List.any_eq_true.mp h
  obtain ⟨z, hz, rfl⟩ := List.mem_map.mp hy
  have e : (z == x) = true := e
  have e := eq_of_beq e
  exact e ▸ hl z hz
theorem wd_of {l : List Str} (h : (l.all fun x => decide (1 ≤ x.cps.size) && decide (x.cps.size ≤ 8) && x.cps.toList.all fun c => decide (97 ≤ c) && decide (c ≤ 122)) = true) : ∀ x ∈ l, isWd x := fun x hx => by
  have z := List.all_eq_true.mp h x hx
  simp only [Bool.and_eq_true, decide_eq_true_eq, List.all_eq_true] at z
  exact ⟨z.1.1, z.1.2, z.2⟩
/-- a step's words -/
theorem step_words {d : Dat} (h : isStep d = true) : ∃ ws : List Str, d = .tup (ws.map Dat.str) ∧ ws ≠ [] ∧ ws.length ≤ 2 ∧ ∀ x ∈ ws, isWd x := by
  unfold isStep at h
  split at h
  · rename_i x
    exact ⟨[x], rfl, by simp, by simp, fun y hy => by rw [List.mem_singleton.mp hy]; exact word_wd (l := ["tick", "forget", "down", "up"]) (wd_of (by decide +kernel)) h⟩
  · rename_i x d
    rw [Bool.and_eq_true] at h
    obtain ⟨y, rfl, hy⟩ := name_wd h.2
    refine ⟨[x, y], rfl, by simp, by simp, fun z hz => ?_⟩
    rcases List.mem_cons.mp hz with rfl | hz
    · exact word_wd (l := ["announce", "update", "look"]) (wd_of (by decide +kernel)) h.1
    · rw [List.mem_singleton.mp hz]
      exact hy
  · cases h
theorem wd_B {x : Str} (h : isWd x) : StrB x := by
  rw [strB_iff]
  exact ⟨Nat.le_trans h.2.1 (by decide), fun c hc => by have := (h.2.2 c hc).2; omega⟩
/-- a step's line -/
def wordsOf : Dat → List Str
  | .tup ds => ds.filterMap fun d => match d with | .str x => some x | _ => none
  | _ => []
theorem words_map (ws : List Str) : wordsOf (.tup (ws.map Dat.str)) = ws := by
  show (ws.map Dat.str).filterMap _ = ws
  rw [List.filterMap_map]
  exact List.filterMap_some ..
def lineD (d : Dat) : Str := Txt.join " " (wordsOf d)
theorem blank_B : StrB " " := strB_dec (by decide +kernel)
theorem feed_B : StrB "\n" := strB_dec (by decide +kernel)
theorem join_room {a : Str} {ws : List Str} {j k : Nat} (h : ∀ x ∈ ws, x.length ≤ j) (hl : ws.length ≤ k) (ha : a.length = 1) (hk : k * (j + 1) ≤ 16777216) : (ws.map (·.length)).sum + ws.length * a.length ≤ 16777216 := by
  have h1 := sum_le h
  rw [ha]
  have h2 : ws.length * (j + 1) ≤ k * (j + 1) := Nat.mul_le_mul_right _ hl
  rw [Nat.mul_add] at h2
  omega
theorem line_ok {d : Dat} (h : isStep d = true) : StrB (lineD d) ∧ (lineD d).length ≤ 18 := by
  obtain ⟨ws, rfl, _, hl, hw⟩ := step_words h
  unfold lineD
  rw [words_map]
  have h8 : ∀ x ∈ ws, x.length ≤ 8 := fun x hx => (hw x hx).2.1
  refine ⟨strB_join blank_B (fun b hb => wd_B (hw b hb)) (join_room h8 hl rfl (by decide)), ?_⟩
  rw [TL.join_eq]
  refine Nat.le_trans (StrLaws.join_length_le _ _) ?_
  have h1 := sum_le h8
  have h2 : (" " : Str).length = 1 := rfl
  rw [h2]
  have h3 : ws.length * 8 ≤ 2 * 8 := Nat.mul_le_mul_right _ hl
  omega
def spLine : DSp := fun ds n Q _ => ∃ d, ds = [d] ∧ isStep d = true ∧ Q (.str (lineD d)) n
theorem sc_step_line : FnScope ["step"] ["step"] (defScope (top 15)) := ⟨rfl, rfl, rfl, by decide +kernel, rfl, by decide +kernel, by decide +kernel⟩
theorem ok_step_line {G : Bool} (F : Has K mg "step_line" (top 15)) (T : Blt mg) (Y : Cst K mg) : Df P w K mg base G 1 "step_line" (LSp K TT spLine) := by
  refine dat_ok F (fun f fd F => F.binds (fun _ _ _ _ _ _ us hl => match us, hl with | [_], _ => rfl)) sc_step_line (fun f cdv A outer s H E hr hG => ⟨_, (dss_one (ds_ret (L2.PE.imp (pe_bm PySem.F.plainAttrs_str PySem.F.slot_str_join PySem.F.type_str_join mt_join (de_g rfl Y.g_BLANK) (da_cons (de_var (pv 0)) da_nil)) fun _ _ _ h => h.bm md_join ty_str))), fun ds n PP R h => ?_⟩) (fun ds n PP R h => ?_)
  · obtain ⟨d, rfl, hs, k⟩ := h
    have hB := (line_ok hs).1
    obtain ⟨ws, rfl, _, hl, hw⟩ := step_words hs
    unfold lineD at k hB
    rw [words_map] at k hB
    exact ⟨rfl, rfl, txts_map ws ⟨join_room (fun x hx => (hw x hx).2.1) hl rfl (by decide), hB, k⟩⟩
  · obtain ⟨d, rfl, _⟩ := h
    rfl
/-- a text no longer than a page -/
def pageB (x : Str) : Prop := StrB x ∧ x.length ≤ 100000
theorem split_room {x y : Str} (h : pageB x) (hy : (y.length == 0) = false) : (y.length == 0) = false ∧ x.length + 2 ≤ sizeLine ∧ (Txt.split x y).length ≤ sizeLine ∧ (∀ z ∈ Txt.split x y, StrB z) := by
  have sz : sizeLine = 16777216 := by decide +kernel
  have h2 := h.2
  exact ⟨hy, by omega, Nat.le_trans split_two (by omega), strB_split h.1⟩
theorem split_page {x y z : Str} (h : pageB x) (hz : z ∈ Txt.split x y) : pageB z := ⟨strB_split h.1 z hz, Nat.le_trans (part_short hz) h.2⟩
/-- a line's words, as a tuple -/
def wordsT (x : Str) : Dat := .tup ((Txt.split x " ").map Dat.str)
theorem wordsT_kd (x : Str) : kdSt (wordsT x) := ⟨rfl, fun ys e y hy => by
  have e := Dat.tup.inj e
  subst e
  obtain ⟨z, _, rfl⟩ := List.mem_map.mp hy
  rfl⟩
def spReadStep : DSp := fun ds n Q _ => ∃ x, ds = [.str x] ∧ pageB x ∧ Q (if isStep (wordsT x) then wordsT x else .non) n
theorem sc_read_step : FnScope ["line", "words"] ["line"] (defScope (top 16)) := ⟨rfl, rfl, rfl, by decide +kernel, rfl, by decide +kernel, by decide +kernel⟩
theorem ok_read_step {G : Bool} (F : Has K mg "read_step" (top 16)) (T : Blt mg) (Y : Cst K mg) (D_has_step_form : Df P w K mg base false 2 "has_step_form" (LSp K TT spHas)) : Df P w K mg base G 3 "read_step" (LSp K TT spReadStep) := by
  refine dat_ok F (fun f fd F => F.binds (fun _ _ _ _ _ _ us hl => match us, hl with | [_], _ => rfl)) sc_read_step (fun f cdv A outer s H E hr hG => ⟨_, (dss_cons (ds_set (i := 1) sc_read_step.nd rfl (Or.inl rfl) (de_cb cd_tup (pe_callTy call_tuple_of rfl T.n_tuple boot_tuple (da_cons (L2.PE.imp (pe_bm PySem.F.plainAttrs_str PySem.F.slot_str_split PySem.F.type_str_split mt_split (de_var (pv 0)) (da_cons (de_g rfl Y.g_BLANK) da_nil)) fun _ _ _ h => h.bm md_split ty_str) da_nil))))
      (dss_one (ds_ret (de_if (dt_val (de_call D_has_step_form hr (by first | decide | omega) (by first | exact hG | (intro z; cases z)) rfl passL (da_cons (de_var (pv 1)) da_nil))) (de_var (pv 1)) de_non)))), fun ds n PP R h => ?_⟩) (fun ds n PP R h => ?_)
  · obtain ⟨x, rfl, hx, k⟩ := h
    obtain ⟨r1, r2, r3, r4⟩ := split_room (y := " ") hx rfl
    refine ⟨rfl, rfl, r1, r2, r3, r4, ⟨wordsT x, rfl, wordsT_kd x, ?_⟩⟩
    refine ite2 (fun c => ?_) (fun c => ?_)
    · rw [if_pos c] at k
      exact k
    · rw [if_neg c] at k
      exact k
  · obtain ⟨x, rfl, _⟩ := h
    rfl
def linesOf (x : Str) : List Str := if x = "" then [] else Txt.split x "\n"
def spLinesOf : DSp := fun ds n Q _ => ∃ x, ds = [.str x] ∧ pageB x ∧ Q (.lst ((linesOf x).map Dat.str)) n
theorem sc_lines_of : FnScope ["text"] ["text"] (defScope (top 20)) := ⟨rfl, rfl, rfl, by decide +kernel, rfl, by decide +kernel, by decide +kernel⟩
theorem ok_lines_of {G : Bool} (F : Has K mg "lines_of" (top 20)) (T : Blt mg) (Y : Cst K mg) : Df P w K mg base G 1 "lines_of" (LSp K TT spLinesOf) := by
  refine dat_ok F (fun f fd F => F.binds (fun _ _ _ _ _ _ us hl => match us, hl with | [_], _ => rfl)) sc_lines_of (fun f cdv A outer s H E hr hG => ⟨_, (dss_one (ds_ret (de_if (dt_cmp (op_neDD hr.units) od_ne (de_var (pv 0)) de_str (nomark _)) (L2.PE.imp (pe_bm PySem.F.plainAttrs_str PySem.F.slot_str_split PySem.F.type_str_split mt_split (de_var (pv 0)) (da_cons (de_g rfl Y.g_FEED) da_nil)) fun _ _ _ h => h.bm md_split ty_str) (de_lst da_nil)))), fun ds n PP R h => ?_⟩) (fun ds n PP R h => ?_)
  · obtain ⟨x, rfl, hx, k⟩ := h
    unfold linesOf at k
    refine ⟨rfl, ⟨cmp_flat rfl, cmp_flat rfl⟩, ?_⟩
    refine ite2 (fun c => ?_) (fun c => ?_)
    · have c : x ≠ "" := by simpa [eqD, py, PyData.eqv] using c
      rw [if_neg c] at k
      obtain ⟨r1, r2, r3, r4⟩ := split_room (y := "\n") hx rfl
      exact ⟨rfl, r1, r2, r3, r4, k⟩
    · have c : x = "" := by simpa [eqD, py, PyData.eqv] using c
      rw [if_pos c] at k
      exact ⟨by show 0 ≤ sizeLine; decide, k⟩
  · obtain ⟨x, rfl, _⟩ := h
    rfl
section
variable {stI : Stmt} {fI AE C_BadRun C_BadText : Addr}
def spCheck (C : Addr) : DSp := fun ds n Q R => ∃ d, ds = [d] ∧ (tyK d).isSome = true ∧ ((∃ x, d = .str x) → Q .non n) ∧ ((∀ x, d ≠ .str x) → R C (.int 0) n)
theorem sc_check_text : FnScope ["text"] ["text"] (defScope (top 18)) := ⟨rfl, rfl, rfl, by decide +kernel, rfl, by decide +kernel, by decide +kernel⟩
theorem ok_check_text {G : Bool} (F : Has K mg "check_text" (top 18)) (T : Blt mg) (Z : Errs P K mg stI fI AE C_BadRun C_BadText) : Df P w K mg base G 3 "check_text" (LSp K TT (spCheck C_BadText)) := by
  refine dat_okX F (fun f fd F => F.binds (fun _ _ _ _ _ _ us hl => match us, hl with | [_], _ => rfl)) sc_check_text (fun f cdv A outer s H E hr hG => ⟨_, (dss_one (ds_if (dt_not (dt_val (de_cb (cd_isT (T := "str") (by simp)) (pe_callB call_isi rfl T.n_isinstance boot_isinstance (da_cons (de_var (pv 0)) (da_cons (de_c (pe_bltn (v := .ty "str") rfl T.n_str boot_str rfl) (fun _ _ => .ty _)) da_nil)))))) (dss_one (ds_raise (ps_raise rfl (takes_of rfl rfl rfl rfl) (pmk_aim Z.ini Z.c_BadText T.n_super (hr.mono (by decide)) rfl Z.m_BadText de_int)))) dss_nil)), fun ds n PP R h => ?_⟩) (fun ds n PP R h => ?_)
  · obtain ⟨d, rfl, ht, k1, k2⟩ := h
    refine ⟨rfl, ?_⟩
    rcases str_or ht with ⟨x, rfl⟩ | ⟨t, e, e2⟩
    · exact ⟨rfl, k1 ⟨x, rfl⟩⟩
    · refine ⟨rfl, ty_of ht fun t' e' => ?_⟩
      rw [e] at e'
      cases e'
      show if (!isT "str" t) = true then _ else _
      rw [e2]
      exact iteT (k2 fun x hx => by subst hx; cases e; cases e2)
  · obtain ⟨d, rfl, _⟩ := h
    rfl
/-! ### runs shown and read -/
/-- the first member that is no step, counted from i on -/
def badAt : List Dat → Nat → Option Nat
  | [], _ => none
  | x :: r, i => if isStep x = true then badAt r (i + 1) else some i
theorem badAt_first : ∀ {xs : List Dat} {i k : Nat} {x : Dat}, xs[i]? = some x → isStep x = false → (∀ y ∈ xs.take i, isStep y = true) → badAt xs k = some (k + i)
  | [], i, k, x, h, _, _ => by simp at h
  | y :: r, 0, k, x, h, hs, _ => by
    cases h
    show (if isStep y = true then _ else _) = _
    rw [hs]
    rfl
  | y :: r, i + 1, k, x, h, hs, hp => by
    show (if isStep y = true then _ else _) = _
    rw [if_pos (hp y (by simp)), badAt_first (i := i) (by simpa using h) hs fun z hz => hp z (by simp [hz])]
    congr 1
    omega
theorem badAt_none : ∀ {xs : List Dat} {k : Nat}, (∀ y ∈ xs, isStep y = true) → badAt xs k = none
  | [], _, _ => rfl
  | y :: r, k, h => by
    show (if isStep y = true then _ else _) = _
    rw [if_pos (h y (by simp)), badAt_none fun z hz => h z (by simp [hz])]
def textD (xs : List Dat) : Str := Txt.join "\n" (xs.map lineD)
/-- what a def answers: a result, or the value of an error -/
inductive Ans | ok (d : Dat) | bad (d : Dat)
def Ans.hold (C : Addr) (n : Nat) (Q : Dat → Nat → Prop) (R : RX) : Ans → Prop
  | .ok d => Q d n
  | .bad d => R C d n
def showAns : Dat → Ans
  | .tup xs => match badAt xs 0 with | some i => .bad (.int i) | none => .ok (.str (textD xs))
  | _ => .bad (.int (-1))
theorem showAns_tup (xs : List Dat) : showAns (.tup xs) = match badAt xs 0 with | some i => Ans.bad (.int i) | none => .ok (.str (textD xs)) := rfl
/-- what is shown, or not -/
def runD (d : Dat) : Prop := (tyK d).isSome = true ∧ ∀ xs, d = .tup xs → xs.length ≤ 1100 ∧ ∀ x ∈ xs, kdSt x
theorem lines_room {xs : List Dat} (hl : xs.length ≤ 1100) (h : ∀ x ∈ xs, isStep x = true) : ((xs.map lineD).map (·.length)).sum + (xs.map lineD).length * ("\n" : Str).length ≤ 16777216 ∧ StrB (textD xs) ∧ (textD xs).length ≤ 22000 := by
  have h1 : ∀ b ∈ xs.map lineD, b.length ≤ 18 := fun b hb => by
    obtain ⟨x, hx, rfl⟩ := List.mem_map.mp hb
    exact (line_ok (h x hx)).2
  have h2 := join_room (k := 1100) (a := "\n") h1 (by rw [List.length_map]; exact hl) rfl (by decide)
  refine ⟨h2, strB_join feed_B (fun b hb => ?_) h2, ?_⟩
  · obtain ⟨x, hx, rfl⟩ := List.mem_map.mp hb
    exact (line_ok (h x hx)).1
  · unfold textD
    rw [TL.join_eq]
    refine Nat.le_trans (StrLaws.join_length_le _ _) ?_
    have h3 := sum_le h1
    have h4 : ("\n" : Str).length = 1 := rfl
    rw [h4]
    rw [List.length_map] at h3 ⊢
    omega
theorem lineD_strs (xs : List Dat) : xs.map (fun d => Dat.str (lineD d)) = (xs.map lineD).map Dat.str := by
  rw [List.map_map]
  rfl
def spShow (C : Addr) : DSp := fun ds n Q R => ∃ d, ds = [d] ∧ runD d ∧ (showAns d).hold C n Q R
theorem sc_show_run : FnScope ["run", "index", "step"] ["run"] (defScope (top 17)) := ⟨rfl, rfl, rfl, by decide +kernel, rfl, by decide +kernel, by decide +kernel⟩
theorem ok_show_run {G : Bool} (F : Has K mg "show_run" (top 17)) (T : Blt mg) (Y : Cst K mg) (Z : Errs P K mg stI fI AE C_BadRun C_BadText) (D_has_step_form : Df P w K mg base false 2 "has_step_form" (LSp K TT spHas)) (D_step_line : Df P w K mg base false 1 "step_line" (LSp K TT spLine)) : DfW P w K mg base G 4 "show_run" (top 17) ["run"] (LSp K TT (spShow C_BadRun)) := by
  refine dat_okW F (fun f fd F => F.binds (fun _ _ _ _ _ _ us hl => match us, hl with | [_], _ => rfl)) sc_show_run (fun f cdv A outer s H E hr hG => ⟨_, (dss_cons (ds_if (dt_not (dt_val (de_cb (cd_isT (T := "tuple") (by simp)) (pe_callB call_isi rfl T.n_isinstance boot_isinstance (da_cons (de_var (pv 0)) (da_cons (de_c (pe_bltn (v := .ty "tuple") rfl T.n_tuple boot_tuple rfl) (fun _ _ => .ty _)) da_nil)))))) (dss_one (ds_raise (ps_raise rfl (takes_of rfl rfl rfl rfl) (pmk_aim Z.ini Z.c_BadRun T.n_super (hr.mono (by decide)) rfl Z.m_BadRun (de_neg de_int))))) dss_nil)
      (dss_cons (ds_forI (passes_of rfl) rfl (di_enumK (pi_enumK rfl T.n_enumerate (da_cons (de_var (pv 0)) da_nil))) (dg_tup (n := 2) rfl (dgs_cons (dg_name (pg_name (i := 1) sc_show_run.nd rfl (Or.inl rfl) (Or.inl rfl))) (dgs_cons (dg_name (pg_name (i := 2) sc_show_run.nd rfl (Or.inl rfl) (Or.inl rfl))) dgs_nil)) (fun ds ρ P h => dgl_len (l := [1, 2]) h)) (dss_one (ds_if (dt_not (dt_val (de_call D_has_step_form hr (by first | decide | omega) (by first | exact hG | (intro z; cases z)) rfl (passes_call (takes_of rfl rfl rfl rfl) (fun _ _ _ _ h => h)) (da_cons (de_var (pv 2)) da_nil)))) (dss_one (ds_raise (ps_raise rfl (takes_of rfl rfl rfl rfl) (pmk_aim Z.ini Z.c_BadRun T.n_super (hr.mono (by decide)) rfl Z.m_BadRun (de_var (pv 1)))))) dss_nil)))
      (dss_one (ds_ret (L2.PE.imp (pe_bm PySem.F.plainAttrs_str PySem.F.slot_str_join PySem.F.type_str_join mt_join (de_g rfl Y.g_FEED) (da_cons (de_fr (lf_lcI (own := [("step", 2)]) rfl sc_show_run.nd (di_tup (de_var (pv 0))) (blkOk_by rfl) (fun _ _ _ _ _ => (dg_name (pg_name (i := 2) sc_show_run.nd rfl (Or.inl rfl) (Or.inr rfl)))) (fun _ _ _ _ _ => dts_nil) (fun _ _ _ _ _ => (de_call D_step_line hr (by first | decide | omega) (by first | exact hG | (intro z; cases z)) rfl passL (da_cons (de_var (pv 2)) da_nil))))) da_nil)) fun _ _ _ h => h.bm md_join ty_str))))), fun ds n PP R h => ?_⟩) (fun ds n PP R h => ?_)
  · obtain ⟨d, rfl, ⟨ht, hr⟩, k⟩ := h
    refine ⟨rfl, ?_⟩
    rcases tup_or ht with ⟨xs, rfl⟩ | ⟨t, e, e2⟩
    · obtain ⟨hl, hk⟩ := hr xs rfl
      have sz : sizeLine = 16777216 := by decide +kernel
      have plen : (pairs (numL 0 xs.length) xs).length = xs.length := by rw [pairs_len, numL_len]; omega
      refine ⟨rfl, ?_⟩
      refine ⟨fun i ρ' m' => ∃ s1 s2 : Sl, ρ' = [.val (.tup xs), s1, s2] ∧ m' = n ∧ ∀ y ∈ xs.take i, isStep y = true, ⟨.no, .no, rfl, rfl, fun y hy => by simp at hy⟩, ?_, ?_⟩
      · rintro i p ρ' m' hp ⟨s1, s2, rfl, rfl, hs⟩
        obtain ⟨a, x, h1, h2, rfl⟩ := pairs_get hp
        have hi := (List.getElem?_eq_some_iff.mp h2).1
        rw [numL_get _ _ _ hi] at h1
        cases h1
        refine ⟨x, rfl, hk x (List.mem_of_getElem? h2), ?_⟩
        by_cases c : isStep x = true
        · show if (!isStep x) = true then _ else _
          rw [c]
          refine iteF ⟨_, _, rfl, rfl, fun y hy => ?_⟩
          rw [List.take_add_one, h2] at hy
          rcases List.mem_append.mp hy with z | z
          · exact hs y z
          · simp at z
            rw [z]
            exact c
        · have c := Bool.eq_false_iff.mpr c
          show if (!isStep x) = true then _ else _
          rw [c]
          refine iteT ?_
          have hb := badAt_first (k := 0) h2 c hs
          rw [showAns_tup, hb] at k
          rw [Nat.zero_add] at k
          show R C_BadRun (.int (0 + (i : Int))) m'
          rw [Int.zero_add]
          exact k
      · rintro ρ' m' ⟨s1, s2, rfl, rfl, hs⟩
        rw [plen, List.take_length] at hs
        rw [showAns_tup, badAt_none hs] at k
        obtain ⟨r1, r2, _⟩ := lines_room hl hs
        refine ⟨rfl, compI_map (fun d => .str (lineD d)) (fun d hd Q q => ⟨d, rfl, hs d hd, q⟩) ?_⟩
        rw [lineD_strs]
        exact txts_map _ ⟨r1, r2, k⟩
    · refine ⟨rfl, ty_of ht fun t' e' => ?_⟩
      rw [e] at e'
      cases e'
      show if (!isT "tuple" t) = true then _ else _
      rw [e2]
      have no : showAns d = .bad (.int (-1)) := by
        cases d <;> first | rfl | (cases e; cases e2)
      rw [no] at k
      exact iteT k
  · obtain ⟨d, rfl, _⟩ := h
    rfl
/-- a page's steps -/
def stepsOf (x : Str) : List Dat := (linesOf x).map wordsT
def readAns : Dat → Ans
  | .str x => match badAt (stepsOf x) 1 with | some i => .bad (.int i) | none => .ok (.tup (stepsOf x))
  | _ => .bad (.int 0)
theorem readAns_str (x : Str) : readAns (.str x) = match badAt (stepsOf x) 1 with | some i => Ans.bad (.int i) | none => .ok (.tup (stepsOf x)) := rfl
def pageD (d : Dat) : Prop := (tyK d).isSome = true ∧ ∀ x, d = .str x → pageB x
theorem linesOf_len {x : Str} (h : pageB x) : (linesOf x).length ≤ 100002 := by
  unfold linesOf
  split
  · exact Nat.zero_le _
  · exact Nat.le_trans split_two (by have := h.2; omega)
theorem linesOf_page {x : Str} (h : pageB x) : ∀ z ∈ linesOf x, pageB z := fun z hz => by
  unfold linesOf at hz
  split at hz
  · cases hz
  · exact split_page h hz
def spRead (C : Addr) : DSp := fun ds n Q R => ∃ d, ds = [d] ∧ pageD d ∧ (readAns d).hold C n Q R
theorem sc_read_run : FnScope ["text", "found", "number", "line", "step"] ["text"] (defScope (top 19)) := ⟨rfl, rfl, rfl, by decide +kernel, rfl, by decide +kernel, by decide +kernel⟩
theorem ok_read_run {G : Bool} (F : Has K mg "read_run" (top 19)) (T : Blt mg) (Y : Cst K mg) (Z : Errs P K mg stI fI AE C_BadRun C_BadText) (D_check_text : Df P w K mg base false 3 "check_text" (LSp K TT (spCheck C_BadText))) (D_lines_of : Df P w K mg base false 1 "lines_of" (LSp K TT spLinesOf)) (D_read_step : Df P w K mg base false 3 "read_step" (LSp K TT spReadStep)) : DfW P w K mg base G 4 "read_run" (top 19) ["text"] (LSp K TT (spRead C_BadText)) := by
  refine dat_okW F (fun f fd F => F.binds (fun _ _ _ _ _ _ us hl => match us, hl with | [_], _ => rfl)) sc_read_run (fun f cdv A outer s H E hr hG => ⟨_, (dss_cons (ds_expr (de_call D_check_text hr (by first | decide | omega) (by first | exact hG | (intro z; cases z)) rfl (passes_call (takes_of rfl rfl rfl rfl) (fun _ _ _ _ h => h)) (da_cons (de_var (pv 0)) da_nil)))
      (dss_cons (ds_own (ps_asg (L2.PE.imp (pe_lst da_nil) fun _ _ _ h => lf_disp h) (pg_name (i := 1) sc_read_run.nd rfl (Or.inl rfl))))
      (dss_cons (ds_forI (passes_of rfl) rfl (di_enumK (pi_enumK rfl T.n_enumerate (da_cons (de_call D_lines_of hr (by first | decide | omega) (by first | exact hG | (intro z; cases z)) rfl (passes_call (takes_of rfl rfl rfl rfl) (fun _ _ _ _ h => h)) (da_cons (de_var (pv 0)) da_nil)) (da_cons de_int da_nil)))) (dg_tup (n := 2) rfl (dgs_cons (dg_name (pg_name (i := 2) sc_read_run.nd rfl (Or.inl rfl) (Or.inl rfl))) (dgs_cons (dg_name (pg_name (i := 3) sc_read_run.nd rfl (Or.inl rfl) (Or.inl rfl))) dgs_nil)) (fun ds ρ P h => dgl_len (l := [2, 3]) h)) (dss_cons (ds_set (i := 4) sc_read_run.nd rfl (Or.inl rfl) (de_call D_read_step hr (by first | decide | omega) (by first | exact hG | (intro z; cases z)) rfl (passes_call (takes_of rfl rfl rfl rfl) (fun _ _ _ _ h => h)) (da_cons (de_var (pv 3)) da_nil)))
      (dss_cons (ds_if (dt_isN (de_var (pv 4))) (dss_one (ds_raise (ps_raise rfl (takes_of rfl rfl rfl rfl) (pmk_aim Z.ini Z.c_BadText T.n_super (hr.mono (by decide)) rfl Z.m_BadText (de_var (pv 2)))))) dss_nil)
      (dss_one (ds_om od_append (ps_om (i := 1) PySem.F.slot_list_append PySem.F.type_list_append mt_append rfl (by first | exact Or.inl rfl | exact Or.inr (Or.inl rfl)) (da_cons (de_var (pv 4)) da_nil)))))))
      (dss_one (ds_melt (i := 1) (ds_ret (de_cb cd_tup (pe_callTy call_tuple_of rfl T.n_tuple boot_tuple (da_cons (de_var (pv 1)) da_nil))))))))), fun ds n PP R h => ?_⟩) (fun ds n PP R h => ?_)
  · obtain ⟨d, rfl, ⟨ht, hr⟩, k⟩ := h
    refine ⟨rfl, ?_⟩
    rcases str_or ht with ⟨x, rfl⟩ | ⟨t, e, e2⟩
    · have hx := hr x rfl
      have hl := linesOf_len hx
      have sz : sizeLine = 16777216 := by decide +kernel
      refine ⟨_, rfl, rfl, fun _ => ?_, fun h => absurd rfl (h x)⟩
      have plen : (pairs (numL 1 ((linesOf x).map Dat.str).length) ((linesOf x).map Dat.str)).length = (linesOf x).length := by rw [pairs_len, numL_len, List.length_map]; omega
      have slen : (stepsOf x).length = (linesOf x).length := List.length_map ..
      refine ⟨by show 0 ≤ sizeLine; decide, ⟨x, rfl, hx, ⟨⟨fun i ρ' m' => ∃ s1 s2 s3 : Sl, ρ' = [.val (.str x), .own ((stepsOf x).take i), s1, s2, s3] ∧ m' = n ∧ ∀ y ∈ (stepsOf x).take i, isStep y = true, ⟨.no, .no, .no, rfl, rfl, fun y hy => by simp at hy⟩, ?_, ?_⟩, by decide, by decide⟩⟩⟩
      · rintro i p ρ' m' hp ⟨s1, s2, s3, rfl, rfl, hs⟩
        obtain ⟨a, y, h1, h2, rfl⟩ := pairs_get hp
        obtain ⟨z, hz, rfl⟩ : ∃ z, (linesOf x)[i]? = some z ∧ y = .str z := by
          rw [List.getElem?_map] at h2
          cases hq : (linesOf x)[i]? with
          | none => rw [hq] at h2; cases h2
          | some z => rw [hq] at h2; cases h2; exact ⟨z, rfl, rfl⟩
        have hi := (List.getElem?_eq_some_iff.mp h2).1
        rw [numL_get _ _ _ hi] at h1
        cases h1
        have hst : (stepsOf x)[i]? = some (wordsT z) := by
          unfold stepsOf
          rw [List.getElem?_map, hz]
          rfl
        refine ⟨z, rfl, linesOf_page hx z (List.mem_of_getElem? hz), ?_⟩
        by_cases c : isStep (wordsT z) = true
        · rw [if_pos c]
          have tk : (stepsOf x).take (i + 1) = (stepsOf x).take i ++ [wordsT z] := by
            rw [List.take_add_one, hst]
            rfl
          refine ⟨by rw [List.length_take]; omega, ?_⟩
          refine ⟨_, _, _, by rw [tk]; rfl, rfl, fun y hy => ?_⟩
          rw [tk] at hy
          rcases List.mem_append.mp hy with q | q
          · exact hs y q
          · rw [List.mem_singleton.mp q]
            exact c
        · rw [if_neg c]
          have hb := badAt_first (k := 1) hst (Bool.eq_false_iff.mpr c) hs
          rw [readAns_str, hb] at k
          have e1 : ((1 + i : Nat) : Int) = 1 + (i : Int) := by push_cast; rfl
          have k : R C_BadText (.int ((1 + i : Nat) : Int)) m' := k
          rw [e1] at k
          exact k
      · rintro ρ' m' ⟨s1, s2, s3, rfl, rfl, hs⟩
        rw [plen, ← slen, List.take_length] at hs
        rw [plen, ← slen, List.take_length]
        rw [readAns_str, badAt_none hs] at k
        exact k
    · refine ⟨d, rfl, ht, fun hx => (by obtain ⟨x, hx⟩ := hx; subst hx; cases e; cases e2), fun _ => ?_⟩
      have no : readAns d = .bad (.int 0) := by
        cases d <;> first | rfl | (cases e; cases e2)
      rw [no] at k
      exact k
  · obtain ⟨d, rfl, _⟩ := h
    rfl
end
end
end Aim

namespace Aim
open PySem PySem.Spec PyProof.Rows L2 RZ
open LamX (TabB)
section
variable {P : Program} {w : World} {K : PySem.W.Frag} {mg : Str → Option Value} {base : Heap} {TT : List (Addr × Str)}
theorem name_is {x : Str} (h : isNm x) : isName (.str x) = true := by
  show (decide (1 ≤ x.cps.size) && decide (x.cps.size ≤ 8) && x.cps.toList.all fun c => decide (c ∈ abc.cps.toList)) = true
  rw [decide_eq_true h.1, decide_eq_true h.2.1, Bool.true_and, Bool.true_and, List.all_eq_true]
  intro c hc
  have e : (List.range 123).all (fun c => !decide (97 ≤ c) || decide (c ∈ abc.cps.toList)) = true := by decide +kernel
  have hl := h.2.2 c hc
  have z := List.all_eq_true.mp e c (List.mem_range.mpr (by have := hl.2; omega))
  rw [decide_eq_true hl.1] at z
  simpa using z
/-! ### the law's own steps -/
def spStep : DSp := fun ds n Q _ => ds = [.pot] ∧ n < 800000 ∧ ∀ d m, n ≤ m → m ≤ n + 11 → isStep d = true → Q d m
def wordL : List Dat := [.str "tick", .str "forget", .str "down", .str "up", .str "announce", .str "update", .str "look", .str "look"]
theorem sc__law_step : FnScope ["_law_pot_here", "_law_word"] ["_law_pot_here"] (defScope (top 36)) := ⟨rfl, rfl, rfl, by decide +kernel, rfl, by decide +kernel, by decide +kernel⟩
theorem ok_step {G : Bool} (F : Has K mg "_law_step" (top 36)) (T : Blt mg) (D__law_of : Df P w K mg base false 2 "_law_of" (LSp K TT spOf)) (D__law_name : Df P w K mg base false 4 "_law_name" (LSp K TT spName)) : Df P w K mg base G 5 "_law_step" (LSp K TT spStep) := by
  refine dat_ok F (fun f fd F => F.binds (fun _ _ _ _ _ _ us hl => match us, hl with | [_], _ => rfl)) sc__law_step (fun f cdv A outer s H E hr hG => ⟨_, (dss_cons (ds_set (i := 1) sc__law_step.nd rfl (Or.inl rfl) (de_call D__law_of hr (by first | decide | omega) (by first | exact hG | (intro z; cases z)) rfl passL (da_cons (de_var (pv 0)) (da_cons (de_lst (da_cons de_str (da_cons de_str (da_cons de_str (da_cons de_str (da_cons de_str (da_cons de_str (da_cons de_str (da_cons de_str da_nil))))))))) da_nil))))
      (dss_one (ds_ret (de_if (dt_cmp (op_inAny (units65 hr)) od_inAny (de_var (pv 1)) (de_tup (da_cons de_str (da_cons de_str (da_cons de_str da_nil)))) (by rfl)) (de_tup (da_cons (de_var (pv 1)) (da_cons (de_call D__law_name hr (by first | decide | omega) (by first | exact hG | (intro z; cases z)) rfl passL (da_cons (de_var (pv 0)) da_nil)) da_nil))) (de_tup (da_cons (de_var (pv 1)) da_nil)))))), fun ds n PP R h => ?_⟩) (fun ds n PP R h => ?_)
  · obtain ⟨rfl, hn, k⟩ := h
    refine ⟨rfl, by show 8 ≤ sizeLine; decide, wordL, .inl rfl, by omega, by decide, by decide, fun v hv => ?_⟩
    have e : (∃ x : Str, v = .str x ∧ (namedL.any fun y => eqF y (.str x)) = true) ∨ ∃ x : Str, v = .str x ∧ (namedL.any fun y => eqF y (.str x)) = false ∧ (bareL.any fun y => eqF y (.str x)) = true := by
      unfold wordL at hv
      simp only [List.mem_cons, List.not_mem_nil, or_false] at hv
      rcases hv with rfl | rfl | rfl | rfl | rfl | rfl | rfl | rfl <;> first | exact .inl ⟨_, rfl, by decide +kernel⟩ | exact .inr ⟨_, rfl, by decide +kernel, by decide +kernel⟩
    rcases e with ⟨x, rfl, e⟩ | ⟨x, rfl, e, e2⟩
    · refine ⟨by show 3 ≤ sizeLine; decide, .inr (.inl ⟨⟨rfl, rfl⟩, ?_⟩)⟩
      refine iteT' e ?_
      refine ⟨rfl, by omega, fun y m hy h1 h2 => ⟨by show 2 ≤ sizeLine; decide, k _ _ (by omega) (by omega) ?_⟩⟩
      show ((namedL.any fun z => eqF z (.str x)) && isName (.str y)) = true
      rw [e, name_is hy]
      rfl
    · refine ⟨by show 3 ≤ sizeLine; decide, .inr (.inl ⟨⟨rfl, rfl⟩, ?_⟩)⟩
      refine iteF' e ?_
      refine ⟨by show 1 ≤ sizeLine; decide, k _ _ (by omega) (by omega) e2⟩
  · obtain ⟨rfl, _⟩ := h
    rfl
/-- the law's text of steps -/
def spText : DSp := fun ds n Q _ => ∃ xs, ds = [.tup xs] ∧ xs.length ≤ 1100 ∧ (∀ x ∈ xs, isStep x = true) ∧ Q (.str (textD xs)) n
theorem sc__law_text : FnScope ["_law_steps", "_law_step_here"] ["_law_steps"] (defScope (top 38)) := ⟨rfl, rfl, rfl, by decide +kernel, rfl, by decide +kernel, by decide +kernel⟩
theorem ok_text {G : Bool} (F : Has K mg "_law_text" (top 38)) (T : Blt mg) : Df P w K mg base G 1 "_law_text" (LSp K TT spText) := by
  refine dat_ok F (fun f fd F => F.binds (fun _ _ _ _ _ _ us hl => match us, hl with | [_], _ => rfl)) sc__law_text (fun f cdv A outer s H E hr hG => ⟨_, (dss_one (ds_ret (L2.PE.imp (pe_bm PySem.F.plainAttrs_str PySem.F.slot_str_join PySem.F.type_str_join mt_join de_str (da_cons (de_fr (lf_lcI (own := [("_law_step_here", 1)]) rfl sc__law_text.nd (di_tup (de_var (pv 0))) (blkOk_by rfl) (fun _ _ _ _ _ => (dg_name (pg_name (i := 1) sc__law_text.nd rfl (Or.inl rfl) (Or.inr rfl)))) (fun _ _ _ _ _ => dts_nil) (fun _ _ _ _ _ => (L2.PE.imp (pe_bm PySem.F.plainAttrs_str PySem.F.slot_str_join PySem.F.type_str_join mt_join de_str (da_cons (de_var (pv 1)) da_nil)) fun _ _ _ h => h.bm md_join ty_str)))) da_nil)) fun _ _ _ h => h.bm md_join ty_str))), fun ds n PP R h => ?_⟩) (fun ds n PP R h => ?_)
  · obtain ⟨xs, rfl, hl, hs, k⟩ := h
    obtain ⟨r1, r2, _⟩ := lines_room hl hs
    refine ⟨rfl, rfl, compI_map (fun d => .str (lineD d)) (fun d hd Q q => ?_) ?_⟩
    · have hB := (line_ok (hs d hd)).1
      obtain ⟨ws, rfl, _, hl, hw⟩ := step_words (hs d hd)
      have q : Q (.str (lineD (.tup (ws.map Dat.str)))) _ := q
      unfold lineD at q hB
      rw [words_map] at q hB
      exact ⟨rfl, txts_map ws ⟨join_room (fun x hx => (hw x hx).2.1) hl rfl (by decide), hB, q⟩⟩
    · rw [lineD_strs]
      exact txts_map _ ⟨r1, r2, k⟩
  · obtain ⟨xs, rfl, _⟩ := h
    rfl
section
variable {stI : Stmt} {fI AE C_BadRun C_BadText c Pt : Addr}
abbrev qualS : Str := (envOfC ("_law_shown_right" : Str) (defScope (top 39)) 0 0 (.ref 0)).qual ++ "<lambda>"
/-- what a law catches -/
def caughtD (C : Addr) : Ans → Dat
  | .ok _ => .non
  | .bad v => .exc C v
theorem dCaught_hold {C AE : Addr} {n : Nat} {ρ : List Sl} {P : Dat → Nat → Prop} {R : RX} {f : DE} (a : Ans) (hx : PySem.W.exmOne K (.ref C) (.ref AE) = some true) (hf : ∀ (Q : Dat → Nat → Prop) (R' : RX), a.hold C n Q R' → f ρ n Q R') (h : P (caughtD C a) n) : dCaught K AE f ρ n P R := by
  refine hf _ _ ?_
  cases a with
  | ok _ => exact h
  | bad _ => exact ⟨hx, h⟩
theorem caught_set {C AE : Addr} {n : Nat} {ρ : List Sl} {P : DN} {f : DE} {tg : DG} {g : DS} (a : Ans) (hx : PySem.W.exmOne K (.ref C) (.ref AE) = some true) (hf : ∀ (Q : Dat → Nat → Prop) (R' : RX), a.hold C n Q R' → f ρ n Q R') (h : tg (caughtD C a) ρ fun ρ' => g P ρ' n) : dSeq (dAsg (dCaught K AE f) tg) g P ρ n :=
  dCaught_hold (C := C) (f := f) (R := P.ex) (P := fun d m => tg d ρ fun ρ' => g P ρ' m) a hx hf h
def spShown : DSp := fun ds n Q _ => ∃ d, ds = [d] ∧ runD d ∧ Q (.bl true) n
theorem sc__law_shown_right : FnScope ["_law_steps", "_law_caught_here", "_law_at", "_law_step_here"] ["_law_steps"] (defScope (top 39)) := ⟨rfl, rfl, rfl, by decide +kernel, rfl, by decide +kernel, by decide +kernel⟩
theorem ok_shown {G : Bool} (hmT : (Pt, qualS) ∈ TT) (hu : ∀ p ∈ TT, p.1 = Pt → p.2 = qualS) (TB : TabB base mg c Pt) (F : HasC K mg "_law_shown_right" (top 39) c) (T : Blt mg) (Z : Errs P K mg stI fI AE C_BadRun C_BadText) (U : CauT K mg (top 29) AE)
    (D_show_run : Df P w K mg base false 4 "show_run" (LSp K TT (spShow C_BadRun))) (D__law_is_step : Df P w K mg base false 2 "_law_is_step" (LSp K TT spHas)) (D__law_text : Df P w K mg base false 1 "_law_text" (LSp K TT spText)) (D__law_same : Df P w K mg base false 2 "_law_same" (LSp K TT (spSame 0))) : Df P w K mg base G 9 "_law_shown_right" (LSp K TT spShown) := by
  refine dat_okC F (fun _ _ _ _ _ _ us hl => match us, hl with | [_], _ => rfl) sc__law_shown_right (fun f A outer s H E hr hG => ⟨_, (dss_cons (ds_set (i := 1) sc__law_shown_right.nd rfl (Or.inl rfl) (de_caught (pe_caught (k := 5) U rfl TB rfl hmT hu (hr.mono (by decide)) (LamX.lamS_by rfl) rfl (fun _ _ _ _ _ => rfl) (fun A outer s H E f c' hr => (de_call D_show_run hr (by first | decide | omega) (by first | exact hG | (intro z; cases z)) rfl (passes_call (takes_of rfl rfl rfl rfl) (fun _ _ _ _ h => h)) (da_cons (de_var (pv 0)) da_nil))))))
      (dss_cons (ds_if (dt_not (dt_val (de_cb (cd_isT (T := "tuple") (by simp)) (pe_callB call_isi rfl T.n_isinstance boot_isinstance (da_cons (de_var (pv 0)) (da_cons (de_c (pe_bltn (v := .ty "tuple") rfl T.n_tuple boot_tuple rfl) (fun _ _ => .ty _)) da_nil)))))) (dss_one (ds_ret (de_and (de_isX (pe_callB call_isiX rfl T.n_isinstance boot_isinstance (pa_cons (de_var (pv 1)) (pa_cons (pe_glob (v := .ref C_BadRun) rfl Z.m_BadRun rfl) pa_nil)))) (de_one (de_call D__law_same hr (by first | decide | omega) (by first | exact hG | (intro z; cases z)) rfl passL (da_cons (de_val Z.c_BadRun (pe_xcv (de_var (pv 1)))) (da_cons (de_neg de_int) da_nil))))))) dss_nil)
      (dss_cons (ds_forI PassesOwn.never rfl (di_enumK (pi_enumK rfl T.n_enumerate (da_cons (de_var (pv 0)) da_nil))) (dg_tup (n := 2) rfl (dgs_cons (dg_name (pg_name (i := 2) sc__law_shown_right.nd rfl (Or.inl rfl) (Or.inl rfl))) (dgs_cons (dg_name (pg_name (i := 3) sc__law_shown_right.nd rfl (Or.inl rfl) (Or.inl rfl))) dgs_nil)) (fun ds ρ P h => dgl_len (l := [2, 3]) h)) (dss_one (ds_if (dt_not (dt_val (de_call D__law_is_step hr (by first | decide | omega) (by first | exact hG | (intro z; cases z)) rfl passL (da_cons (de_var (pv 3)) da_nil)))) (dss_one (ds_ret (de_and (de_isX (pe_callB call_isiX rfl T.n_isinstance boot_isinstance (pa_cons (de_var (pv 1)) (pa_cons (pe_glob (v := .ref C_BadRun) rfl Z.m_BadRun rfl) pa_nil)))) (de_one (de_call D__law_same hr (by first | decide | omega) (by first | exact hG | (intro z; cases z)) rfl passL (da_cons (de_val Z.c_BadRun (pe_xcv (de_var (pv 1)))) (da_cons (de_var (pv 2)) da_nil))))))) dss_nil)))
      (dss_one (ds_ret (de_and (de_isN (de_var (pv 1))) (de_one (de_call D__law_same hr (by first | decide | omega) (by first | exact hG | (intro z; cases z)) rfl passL (da_cons (de_call D_show_run hr (by first | decide | omega) (by first | exact hG | (intro z; cases z)) rfl passL (da_cons (de_var (pv 0)) da_nil)) (da_cons (de_call D__law_text hr (by first | decide | omega) (by first | exact hG | (intro z; cases z)) rfl passL (da_cons (de_var (pv 0)) da_nil)) da_nil)))))))))), fun ds n PP R h => ?_⟩) (fun ds n PP R h => ?_)
  · obtain ⟨d, rfl, hr, k⟩ := h
    refine ⟨rfl, ?_⟩
    refine caught_set (C := C_BadRun) (showAns d) Z.x_BadRun (fun Q R' h => ⟨d, rfl, hr, h⟩) ?_
    rcases tup_or hr.1 with ⟨xs, rfl⟩ | ⟨t, e, e2⟩
    · obtain ⟨hl, hk⟩ := hr.2 xs rfl
      have plen : (pairs (numL 0 xs.length) xs).length = xs.length := by rw [pairs_len, numL_len]; omega
      refine ⟨rfl, ?_⟩
      refine ⟨fun i ρ' m' => ∃ s1 s2 : Sl, ρ' = [.val (.tup xs), .val (caughtD C_BadRun (showAns (.tup xs))), s1, s2] ∧ m' = n ∧ ∀ y ∈ xs.take i, isStep y = true, ⟨.no, .no, rfl, rfl, fun y hy => by simp at hy⟩, ?_, ?_⟩
      · rintro i p ρ' m' hp ⟨s1, s2, rfl, rfl, hs⟩
        obtain ⟨a, x, h1, h2, rfl⟩ := pairs_get hp
        have hi := (List.getElem?_eq_some_iff.mp h2).1
        rw [numL_get _ _ _ hi] at h1
        cases h1
        refine ⟨x, rfl, hk x (List.mem_of_getElem? h2), ?_⟩
        by_cases c : isStep x = true
        · show if (!isStep x) = true then _ else _
          rw [c]
          refine iteF ⟨_, _, rfl, rfl, fun y hy => ?_⟩
          rw [List.take_add_one, h2] at hy
          rcases List.mem_append.mp hy with z | z
          · exact hs y z
          · simp at z
            rw [z]
            exact c
        · have c := Bool.eq_false_iff.mpr c
          show if (!isStep x) = true then _ else _
          rw [c]
          refine iteT ?_
          have hb := badAt_first (k := 0) h2 c hs
          have hc : caughtD C_BadRun (showAns (.tup xs)) = .exc C_BadRun (.int ((0 + i : Nat) : Int)) := by rw [showAns_tup, hb]; rfl
          rw [hc]
          refine ⟨⟨fI, AE, Z.c_BadRun⟩, true, Z.i_BadRun, ⟨rfl, .int ((0 + i : Nat) : Int), .int (0 + (i : Int)), rfl, rfl, rfl, rfl, ?_⟩⟩
          have e : sameD (.int ((0 + i : Nat) : Int)) (.int (0 + (i : Int))) = true := by
            show (((0 + i : Nat) : Int) == 0 + (i : Int)) = true
            rw [beq_iff_eq]
            push_cast
            rfl
          rw [e]
          exact k
      · rintro ρ' m' ⟨s1, s2, rfl, rfl, hs⟩
        rw [plen, List.take_length] at hs
        have hc : showAns (.tup xs) = .ok (.str (textD xs)) := by rw [showAns_tup, badAt_none hs]
        rw [hc]
        refine ⟨.tup xs, rfl, hr, ?_⟩
        rw [hc]
        refine ⟨xs, rfl, hl, hs, ⟨.str (textD xs), .str (textD xs), rfl, rfl, rfl, rfl, ?_⟩⟩
        rw [show sameD (.str (textD xs)) (.str (textD xs)) = true from beq_self_eq_true _]
        exact k
    · have no : showAns d = .bad (.int (-1)) := by
        cases d <;> first | rfl | (cases e; cases e2)
      rw [no]
      refine ⟨rfl, ty_of hr.1 fun t' e' => ?_⟩
      rw [e] at e'
      cases e'
      show if (!isT "tuple" t) = true then _ else _
      rw [e2]
      exact iteT ⟨⟨fI, AE, Z.c_BadRun⟩, true, Z.i_BadRun, ⟨rfl, .int (-1), .int (-1), rfl, rfl, rfl, rfl, k⟩⟩
  · obtain ⟨d, rfl, _⟩ := h
    rfl
end
end
end Aim

namespace Aim
open PySem PySem.Spec PyProof.Rows L2 RZ
open LamX (TabB)
section
variable {P : Program} {w : World} {K : PySem.W.Frag} {mg : Str → Option Value} {base : Heap} {TT : List (Addr × Str)}
section
variable {stI : Stmt} {fI AE C_BadRun C_BadText c Pt : Addr}
mutual
theorem sameD_refl : ∀ {n : Nat} {d : Dat}, Lvl n d → plain d = true → sameD d d = true
  | _, .non, _, _ => rfl
  | _, .bl b, _, _ => beq_self_eq_true b
  | _, .int i, _, _ => beq_self_eq_true i
  | _, .str x, _, _ => beq_self_eq_true x
  | n, .tup xs, h, p => sameDs_refl (n := n) xs fun x hx => by
    cases n with
    | zero => cases h
    | succ n => exact ⟨n, Nat.le_succ _, lvl_inner h (.inl rfl) x hx, plains_mem p x hx⟩
  | n, .lst xs, h, p => sameDs_refl (n := n) xs fun x hx => by
    cases n with
    | zero => cases h
    | succ n => exact ⟨n, Nat.le_succ _, lvl_inner h (.inr rfl) x hx, plains_mem p x hx⟩
theorem sameDs_refl : ∀ {n : Nat} (xs : List Dat), (∀ x ∈ xs, ∃ m, m ≤ n ∧ Lvl m x ∧ plain x = true) → sameDs xs xs = true
  | _, [], _ => rfl
  | n, x :: xs, h => by
    obtain ⟨m, _, h1, h2⟩ := h x (by simp)
    show (sameD x x && sameDs xs xs) = true
    rw [sameD_refl h1 h2, sameDs_refl xs fun y hy => h y (by simp [hy])]
    rfl
end
theorem steps_lvl {xs : List Dat} (h : ∀ x ∈ xs, ∃ ws : List Str, x = .tup (ws.map Dat.str)) : Lvl 2 (.tup xs) ∧ plain (.tup xs) = true := by
  have q : ∀ x ∈ xs, Lvl 1 x ∧ plain x = true := fun x hx => by
    obtain ⟨ws, rfl⟩ := h x hx
    refine ⟨.inr ⟨_, .inl rfl, fun y hy => ?_⟩, plains_of fun y hy => ?_⟩
    · obtain ⟨z, _, rfl⟩ := List.mem_map.mp hy
      rfl
    · obtain ⟨z, _, rfl⟩ := List.mem_map.mp hy
      rfl
  exact ⟨.inr ⟨xs, .inl rfl, fun x hx => (q x hx).1⟩, plains_of fun x hx => (q x hx).2⟩
theorem stepsOf_strs (x : Str) : ∀ y ∈ stepsOf x, ∃ ws : List Str, y = .tup (ws.map Dat.str) := fun y hy => by
  obtain ⟨z, _, rfl⟩ := List.mem_map.mp hy
  exact ⟨_, rfl⟩
def wordsF : Dat → Dat
  | .str z => wordsT z
  | d => d
abbrev qualR : Str := (envOfC ("_law_read_right" : Str) (defScope (top 40)) 0 0 (.ref 0)).qual ++ "<lambda>"
def spReadR : DSp := fun ds n Q _ => ∃ x, ds = [.str x] ∧ pageB x ∧ Q (.bl true) n
theorem sc__law_read_right : FnScope ["_law_page", "_law_caught_here", "_law_steps", "_law_at", "_law_step_here", "_law_line"] ["_law_page"] (defScope (top 40)) := ⟨rfl, rfl, rfl, by decide +kernel, rfl, by decide +kernel, by decide +kernel⟩
theorem ok_readr {G : Bool} (hmT : (Pt, qualR) ∈ TT) (hu : ∀ p ∈ TT, p.1 = Pt → p.2 = qualR) (TB : TabB base mg c Pt) (F : HasC K mg "_law_read_right" (top 40) c) (T : Blt mg) (Z : Errs P K mg stI fI AE C_BadRun C_BadText) (U : CauT K mg (top 29) AE)
    (D_read_run : Df P w K mg base false 4 "read_run" (LSp K TT (spRead C_BadText))) (D__law_is_step : Df P w K mg base false 2 "_law_is_step" (LSp K TT spHas)) (D__law_same : Df P w K mg base false 4 "_law_same" (LSp K TT (spSame 2))) : Df P w K mg base G 9 "_law_read_right" (LSp K TT spReadR) := by
  refine dat_okC F (fun _ _ _ _ _ _ us hl => match us, hl with | [_], _ => rfl) sc__law_read_right (fun f A outer s H E hr hG => ⟨_, (dss_cons (ds_set (i := 1) sc__law_read_right.nd rfl (Or.inl rfl) (de_caught (pe_caught (k := 5) U rfl TB rfl hmT hu (hr.mono (by decide)) (LamX.lamS_by rfl) rfl (fun _ _ _ _ _ => rfl) (fun A outer s H E f c' hr => (de_call D_read_run hr (by first | decide | omega) (by first | exact hG | (intro z; cases z)) rfl (passes_call (takes_of rfl rfl rfl rfl) (fun _ _ _ _ h => h)) (da_cons (de_var (pv 0)) da_nil))))))
      (dss_cons (ds_if (dt_cmp (op_eqDD hr.units) od_eq (de_var (pv 0)) de_str (nomark _)) (dss_one (ds_ret (de_and (de_isN (de_var (pv 1))) (de_one (de_call D__law_same hr (by first | decide | omega) (by first | exact hG | (intro z; cases z)) rfl passL (da_cons (de_call D_read_run hr (by first | decide | omega) (by first | exact hG | (intro z; cases z)) rfl passL (da_cons (de_var (pv 0)) da_nil)) (da_cons (de_tup da_nil) da_nil))))))) dss_nil)
      (dss_cons (ds_setF (st_lcI (own := [("_law_line", 5)]) rfl sc__law_read_right.nd (i := 2) rfl rfl rfl (di_list (L2.PE.imp (pe_bm PySem.F.plainAttrs_str PySem.F.slot_str_split PySem.F.type_str_split mt_split (de_var (pv 0)) (da_cons de_str da_nil)) fun _ _ _ h => h.bm md_split ty_str)) (blkOk_by rfl) (fun _ _ _ _ _ => (dg_name (pg_name (i := 5) sc__law_read_right.nd rfl (Or.inl rfl) (Or.inr rfl)))) (fun _ _ _ _ _ => dts_nil) (fun _ _ _ _ _ => (de_cb cd_tup (pe_callTy call_tuple_of rfl T.n_tuple boot_tuple (da_cons (L2.PE.imp (pe_bm PySem.F.plainAttrs_str PySem.F.slot_str_split PySem.F.type_str_split mt_split (de_var (pv 5)) (da_cons de_str da_nil)) fun _ _ _ h => h.bm md_split ty_str) da_nil))))))
      (dss_cons (ds_forI PassesOwn.never rfl (di_enumK (pi_enumK rfl T.n_enumerate (da_cons (de_var (pv 2)) da_nil))) (dg_tup (n := 2) rfl (dgs_cons (dg_name (pg_name (i := 3) sc__law_read_right.nd rfl (Or.inl rfl) (Or.inl rfl))) (dgs_cons (dg_name (pg_name (i := 4) sc__law_read_right.nd rfl (Or.inl rfl) (Or.inl rfl))) dgs_nil)) (fun ds ρ P h => dgl_len (l := [3, 4]) h)) (dss_one (ds_if (dt_not (dt_val (de_call D__law_is_step hr (by first | decide | omega) (by first | exact hG | (intro z; cases z)) rfl passL (da_cons (de_var (pv 4)) da_nil)))) (dss_one (ds_ret (de_and (de_isX (pe_callB call_isiX rfl T.n_isinstance boot_isinstance (pa_cons (de_var (pv 1)) (pa_cons (pe_glob (v := .ref C_BadText) rfl Z.m_BadText rfl) pa_nil)))) (de_one (de_call D__law_same hr (by first | decide | omega) (by first | exact hG | (intro z; cases z)) rfl passL (da_cons (de_val Z.c_BadText (pe_xcv (de_var (pv 1)))) (da_cons (de_op op_addAny od_add (de_var (pv 3)) de_int) da_nil))))))) dss_nil)))
      (dss_one (ds_ret (de_and (de_isN (de_var (pv 1))) (de_one (de_call D__law_same hr (by first | decide | omega) (by first | exact hG | (intro z; cases z)) rfl passL (da_cons (de_call D_read_run hr (by first | decide | omega) (by first | exact hG | (intro z; cases z)) rfl passL (da_cons (de_var (pv 0)) da_nil)) (da_cons (de_cb cd_tup (pe_callTy call_tuple_of rfl T.n_tuple boot_tuple (da_cons (de_var (pv 2)) da_nil))) da_nil))))))))))), fun ds n PP R h => ?_⟩) (fun ds n PP R h => ?_)
  · obtain ⟨x, rfl, hx, k⟩ := h
    have pd : pageD (.str x) := ⟨rfl, fun y e => by cases e; exact hx⟩
    refine ⟨rfl, ?_⟩
    refine caught_set (C := C_BadText) (readAns (.str x)) Z.x_BadText (fun Q R' h => ⟨_, rfl, pd, h⟩) ?_
    refine ⟨⟨cmp_flat rfl, cmp_flat rfl⟩, ?_⟩
    refine ite2 (fun ce => ?_) (fun ce => ?_)
    · have ce : x = "" := by simpa [eqD, py, PyData.eqv] using ce
      subst ce
      have h0 : readAns (.str "") = .ok (.tup []) := by
        rw [readAns_str]
        unfold stepsOf linesOf
        rw [if_pos rfl]
        rfl
      rw [h0]
      refine ⟨_, rfl, pd, ?_⟩
      rw [h0]
      exact ⟨by show 0 ≤ sizeLine; decide, ⟨.tup [], .tup [], rfl, .inr ⟨[], .inl rfl, fun x hx => by simp at hx⟩, rfl, rfl, k⟩⟩
    · have ce : x ≠ "" := by simpa [eqD, py, PyData.eqv] using ce
      obtain ⟨r1, r2, r3, r4⟩ := split_room (y := "\n") hx rfl
      have hlin : linesOf x = Txt.split x "\n" := if_neg ce
      have hst : ((Txt.split x "\n").map Dat.str).map wordsF = stepsOf x := by
        unfold stepsOf
        rw [hlin, List.map_map]
        rfl
      obtain ⟨sl1, sl2⟩ := steps_lvl (stepsOf_strs x)
      refine ⟨rfl, r1, r2, r3, r4, ?_⟩
      refine compI_map wordsF (fun d hd Q q => ?_) ?_
      · obtain ⟨z, hz, rfl⟩ := List.mem_map.mp hd
        obtain ⟨q1, q2, q3, q4⟩ := split_room (y := " ") (split_page hx hz) rfl
        exact ⟨rfl, q1, q2, q3, q4, q⟩
      rw [hst]
      have plen : (pairs (numL 0 (stepsOf x).length) (stepsOf x)).length = (stepsOf x).length := by rw [pairs_len, numL_len]; omega
      refine ⟨fun i ρ' m' => ∃ s1 s2 s3 : Sl, ρ' = [.val (.str x), .val (caughtD C_BadText (readAns (.str x))), .val (.lst (stepsOf x)), s1, s2, s3] ∧ m' = n ∧ ∀ y ∈ (stepsOf x).take i, isStep y = true, ⟨_, _, _, rfl, rfl, fun y hy => by simp at hy⟩, ?_, ?_⟩
      · rintro i p ρ' m' hp ⟨s1, s2, s3, rfl, rfl, hs⟩
        obtain ⟨a, y, h1, h2, rfl⟩ := pairs_get hp
        have hi := (List.getElem?_eq_some_iff.mp h2).1
        rw [numL_get _ _ _ hi] at h1
        cases h1
        have hkd : kdSt y := by
          obtain ⟨ws, rfl⟩ := stepsOf_strs x y (List.mem_of_getElem? h2)
          exact ⟨rfl, fun ys e u hu => by
            have e := Dat.tup.inj e
            subst e
            obtain ⟨z, _, rfl⟩ := List.mem_map.mp hu
            rfl⟩
        refine ⟨y, rfl, hkd, ?_⟩
        by_cases c : isStep y = true
        · show if (!isStep y) = true then _ else _
          rw [c]
          refine iteF ⟨_, _, _, rfl, rfl, fun u hu => ?_⟩
          rw [List.take_add_one, h2] at hu
          rcases List.mem_append.mp hu with z | z
          · exact hs u z
          · simp at z
            rw [z]
            exact c
        · have c := Bool.eq_false_iff.mpr c
          show if (!isStep y) = true then _ else _
          rw [c]
          refine iteT ?_
          have hb := badAt_first (k := 1) h2 c hs
          have hc : caughtD C_BadText (readAns (.str x)) = .exc C_BadText (.int ((1 + i : Nat) : Int)) := by rw [readAns_str, hb]; rfl
          rw [hc]
          refine ⟨⟨fI, AE, Z.c_BadText⟩, true, Z.i_BadText, ⟨rfl, .int ((1 + i : Nat) : Int), .int (0 + (i : Int) + 1), rfl, .inl rfl, rfl, rfl, ?_⟩⟩
          have e : sameD (.int ((1 + i : Nat) : Int)) (.int (0 + (i : Int) + 1)) = true := by
            show (((1 + i : Nat) : Int) == 0 + (i : Int) + 1) = true
            rw [beq_iff_eq]
            push_cast
            omega
          rw [e]
          exact k
      · rintro ρ' m' ⟨s1, s2, s3, rfl, rfl, hs⟩
        rw [plen, List.take_length] at hs
        have hc : readAns (.str x) = .ok (.tup (stepsOf x)) := by rw [readAns_str, badAt_none hs]
        rw [hc]
        refine ⟨.str x, rfl, pd, ?_⟩
        rw [hc]
        refine ⟨.tup (stepsOf x), .tup (stepsOf x), rfl, sl1, sl2, sl2, ?_⟩
        rw [sameD_refl sl1 sl2]
        exact k
  · obtain ⟨x, rfl, _⟩ := h
    rfl
abbrev qualO : Str := (envOfC ("_law_odd_right" : Str) (defScope (top 42)) 0 0 (.ref 0)).qual ++ "<lambda>"
def spOddR : DSp := fun ds n Q _ => ∃ d, ds = [d] ∧ (tyK d).isSome = true ∧ (∀ x, d ≠ .str x) ∧ Q (.bl true) n
theorem sc__law_odd_right : FnScope ["_law_odd_here", "_law_caught_here"] ["_law_odd_here"] (defScope (top 42)) := ⟨rfl, rfl, rfl, by decide +kernel, rfl, by decide +kernel, by decide +kernel⟩
theorem ok_oddr {G : Bool} (hmT : (Pt, qualO) ∈ TT) (hu : ∀ p ∈ TT, p.1 = Pt → p.2 = qualO) (TB : TabB base mg c Pt) (F : HasC K mg "_law_odd_right" (top 42) c) (T : Blt mg) (Z : Errs P K mg stI fI AE C_BadRun C_BadText) (U : CauT K mg (top 29) AE)
    (D_read_run : Df P w K mg base false 4 "read_run" (LSp K TT (spRead C_BadText))) (D__law_same : Df P w K mg base false 4 "_law_same" (LSp K TT (spSame 2))) : Df P w K mg base G 9 "_law_odd_right" (LSp K TT spOddR) := by
  refine dat_okC F (fun _ _ _ _ _ _ us hl => match us, hl with | [_], _ => rfl) sc__law_odd_right (fun f A outer s H E hr hG => ⟨_, (dss_cons (ds_set (i := 1) sc__law_odd_right.nd rfl (Or.inl rfl) (de_caught (pe_caught (k := 5) U rfl TB rfl hmT hu (hr.mono (by decide)) (LamX.lamS_by rfl) rfl (fun _ _ _ _ _ => rfl) (fun A outer s H E f c' hr => (de_call D_read_run hr (by first | decide | omega) (by first | exact hG | (intro z; cases z)) rfl (passes_call (takes_of rfl rfl rfl rfl) (fun _ _ _ _ h => h)) (da_cons (de_var (pv 0)) da_nil))))))
      (dss_one (ds_ret (de_and (de_isX (pe_callB call_isiX rfl T.n_isinstance boot_isinstance (pa_cons (de_var (pv 1)) (pa_cons (pe_glob (v := .ref C_BadText) rfl Z.m_BadText rfl) pa_nil)))) (de_one (de_call D__law_same hr (by first | decide | omega) (by first | exact hG | (intro z; cases z)) rfl passL (da_cons (de_val Z.c_BadText (pe_xcv (de_var (pv 1)))) (da_cons de_int da_nil)))))))), fun ds n PP R h => ?_⟩) (fun ds n PP R h => ?_)
  · obtain ⟨d, rfl, ht, hs, k⟩ := h
    have pd : pageD d := ⟨ht, fun y e => absurd e (hs y)⟩
    have no : readAns d = .bad (.int 0) := by
      cases d <;> first | rfl | exact absurd rfl (hs _)
    refine ⟨rfl, ?_⟩
    refine caught_set (C := C_BadText) (readAns d) Z.x_BadText (fun Q R' h => ⟨_, rfl, pd, h⟩) ?_
    rw [no]
    exact ⟨⟨fI, AE, Z.c_BadText⟩, true, Z.i_BadText, ⟨rfl, .int 0, .int 0, rfl, .inl rfl, rfl, rfl, k⟩⟩
  · obtain ⟨d, rfl, _⟩ := h
    rfl
/-! ### a page bent -/
def spBentT : DSp := fun ds n Q _ => ∃ x, ds = [.pot, .str x] ∧ StrB x ∧ x.length ≤ 90000 ∧ n < 800000 ∧ ∀ y m, StrB y → y.length ≤ 2 * x.length + 10 → n ≤ m → m ≤ n + 4 → Q (.str y) m
theorem strB_app {x y : Str} (h : StrB x) (h' : StrB y) (l : x.length + y.length ≤ sizeLine) : StrB (x ++ y) := by
  rw [strB_iff] at h h' ⊢
  refine ⟨?_, fun c hc => ?_⟩
  · show (x.cps ++ y.cps).size ≤ sizeLine
    rw [Array.size_append]
    exact l
  · rw [TL.tl_append] at hc
    rcases List.mem_append.mp hc with z | z
    · exact h.2 c z
    · exact h'.2 c z
theorem len_app (x y : Str) : (x ++ y).length = x.length + y.length := by
  show (x.cps ++ y.cps).size = _
  rw [Array.size_append]
  rfl
theorem sc__law_bent_text : FnScope ["_law_pot_here", "_law_page", "_law_sign", "_law_at", "_law_kind"] ["_law_pot_here", "_law_page"] (defScope (top 41)) := ⟨rfl, rfl, rfl, by decide +kernel, rfl, by decide +kernel, by decide +kernel⟩
theorem ok_bent_text {G : Bool} (F : Has K mg "_law_bent_text" (top 41)) (T : Blt mg) (D__law_take : Df P w K mg base false 1 "_law_take" (LSp K TT spTake)) (D__law_of : Df P w K mg base false 2 "_law_of" (LSp K TT spOf)) (D__law_letter : Df P w K mg base false 1 "_law_letter" (LSp K TT spLetter)) : Df P w K mg base G 3 "_law_bent_text" (LSp K TT spBentT) := by
  refine dat_ok F (fun f fd F => F.binds (fun _ _ _ _ _ _ us hl => match us, hl with | [_, _], _ => rfl)) sc__law_bent_text (fun f cdv A outer s H E hr hG => ⟨_, (dss_cons (ds_par (ps_par (i := 3) (j := 4) rfl sc__law_bent_text.nd rfl rfl (by decide) rfl rfl (da_cons (de_call D__law_take hr (by first | decide | omega) (by first | exact hG | (intro z; cases z)) rfl passL (da_cons (de_var (pv 0)) (da_cons (de_op op_addAny od_add (de_cb cd_len (pe_callB call_len rfl T.n_len boot_len (da_cons (de_var (pv 1)) da_nil))) de_int) da_nil))) (da_cons (de_call D__law_take hr (by first | decide | omega) (by first | exact hG | (intro z; cases z)) rfl passL (da_cons (de_var (pv 0)) (da_cons de_int da_nil))) da_nil)) (by rfl)))
      (dss_cons (ds_set (i := 2) sc__law_bent_text.nd rfl (Or.inl rfl) (de_call D__law_of hr (by first | decide | omega) (by first | exact hG | (intro z; cases z)) rfl passL (da_cons (de_var (pv 0)) (da_cons (de_lst (da_cons de_str (da_cons de_str (da_cons de_str (da_cons de_str (da_cons (de_call D__law_letter hr (by first | decide | omega) (by first | exact hG | (intro z; cases z)) rfl passL (da_cons (de_call D__law_take hr (by first | decide | omega) (by first | exact hG | (intro z; cases z)) rfl passL (da_cons (de_var (pv 0)) (da_cons de_int da_nil))) da_nil)) (da_cons de_str (da_cons de_str da_nil)))))))) da_nil))))
      (dss_cons (ds_if (dt_cmp (op_eqDD hr.units) od_eq (de_var (pv 4)) de_int (nomark _)) (dss_one (ds_ret (de_op op_addAny od_add (de_sl (de_var (pv 1)) do_none (do_some (de_var (pv 3)))) (de_sl (de_var (pv 1)) (do_some (de_op op_addAny od_add (de_var (pv 3)) de_int)) do_none)))) dss_nil)
      (dss_one (ds_ret (de_op op_addAny od_add (de_op op_addAny od_add (de_sl (de_var (pv 1)) do_none (do_some (de_var (pv 3)))) (de_var (pv 2))) (de_sl (de_var (pv 1)) (do_some (de_op op_addAny od_add (de_var (pv 3)) (de_if (dt_cmp (op_eqDD hr.units) od_eq (de_var (pv 4)) de_int (nomark _)) de_int de_int))) do_none))))))), fun ds n PP R h => ?_⟩) (fun ds n PP R h => ?_)
  · obtain ⟨x, rfl, hx, hl, hn, k⟩ := h
    have sz : sizeLine = 16777216 := by decide +kernel
    refine ⟨rfl, ?_⟩
    refine ⟨(x.length : Int) + 1, rfl, by omega, by omega, by omega, fun a a0 a1 => ?_⟩
    refine ⟨4, rfl, by omega, by decide, by decide, fun b b0 b1 => ?_⟩
    refine ⟨26, rfl, by omega, by decide, by decide, fun l l0 l1 => ⟨l, rfl, l0, l1, fun c hc => ?_⟩⟩
    refine ⟨by show 7 ≤ sizeLine; decide, ([.str " ", .str "\n", .str "A", .str "-", .str ⟨#[c]⟩, .str "tick", .str "\nup\n"] : List Dat), .inl rfl, by omega, by show 0 < 7; decide, by show 7 ≤ 1000000; decide, fun v hv => ?_⟩
    have hv2 : ∃ s : Str, v = .str s ∧ StrB s ∧ s.length ≤ 4 := by
      simp only [List.mem_cons, List.not_mem_nil, or_false] at hv
      rcases hv with rfl | rfl | rfl | rfl | rfl | rfl | rfl
      · exact ⟨_, rfl, strB_dec (by decide +kernel), by decide⟩
      · exact ⟨_, rfl, strB_dec (by decide +kernel), by decide⟩
      · exact ⟨_, rfl, strB_dec (by decide +kernel), by decide⟩
      · exact ⟨_, rfl, strB_dec (by decide +kernel), by decide⟩
      · exact ⟨_, rfl, strB_iff.mpr ⟨by show 1 ≤ sizeLine; decide, fun d hd => by
          have e : d = c := by simpa [TL.tl] using hd
          rw [e]
          have := hc.2
          omega⟩, by show 1 ≤ 4; decide⟩
      · exact ⟨_, rfl, strB_dec (by decide +kernel), by decide⟩
      · exact ⟨_, rfl, strB_dec (by decide +kernel), by decide⟩
    obtain ⟨s, rfl, sB, sl⟩ := hv2
    have cl : ∀ lo hi, (cutS x lo hi).length ≤ x.length := fun lo hi => cutS_len x lo hi
    have two : ∀ lo hi lo' hi', (cutS x lo hi).length + (cutS x lo' hi').length ≤ sizeLine := fun lo hi lo' hi' => by
      have := cl lo hi
      have := cl lo' hi'
      omega
    refine ⟨⟨cmp_flat rfl, cmp_flat rfl⟩, ?_⟩
    refine ite2 (fun _ => ?_) (fun _ => ?_)
    · refine ⟨two _ _ _ _, k _ _ (strB_app (strB_cut hx _ _) (strB_cut hx _ _) (two _ _ _ _)) ?_ (by omega) (by omega)⟩
      rw [len_app]
      have := cl none (some a)
      have := cl (some (a + 1)) none
      omega
    · have l1 := cl none (some a)
      have r1 : (cutS x none (some a)).length + s.length ≤ sizeLine := by omega
      have B1 := strB_app (strB_cut hx none (some a)) sB r1
      have fin : ∀ e : Int, gAdd (.str (cutS x none (some a) ++ s)) (.str (cutS x (some e) none)) fun d => PP d (n + 1 + 1 + 1 + 1) := fun e => by
        have l2 := cl (some e) none
        have r2 : (cutS x none (some a) ++ s).length + (cutS x (some e) none).length ≤ sizeLine := by rw [len_app]; omega
        exact ⟨r2, k _ _ (strB_app B1 (strB_cut hx _ _) r2) (by rw [len_app, len_app]; omega) (by omega) (by omega)⟩
      refine ⟨r1, ⟨cmp_flat rfl, cmp_flat rfl⟩, ?_⟩
      refine ite2 (fun _ => ?_) (fun _ => ?_)
      · exact fin (a + 1)
      · exact fin (a + 0)
  · obtain ⟨x, rfl, _⟩ := h
    rfl
end
end
end Aim

namespace Aim
open PySem PySem.Spec PyProof.Rows L2 RZ
open LamX (TabB)
section
variable {P : Program} {w : World} {K : PySem.W.Frag} {mg : Str → Option Value} {base : Heap} {TT : List (Addr × Str)}
section
variable {stI : Stmt} {fI AE C_BadRun C_BadText c Pt : Addr}
/-- the text of steps, read, is the steps -/
theorem line_signs {d : Dat} (h : isStep d = true) {c : Nat} (hc : c ∈ TL.tl (lineD d)) : c = 32 ∨ isLet c := by
  obtain ⟨ws, rfl, _, _, hw⟩ := step_words h
  unfold lineD at hc
  rw [words_map, TL.join_eq, TL.tl_join] at hc
  rcases joinL_mem hc with z | ⟨p, hp, z⟩
  · left
    have e : TL.tl (" " : Str) = [32] := by decide +kernel
    rw [e] at z
    exact List.mem_singleton.mp z
  · right
    obtain ⟨w, hww, rfl⟩ := List.mem_map.mp hp
    exact (hw w hww).2.2 c z
theorem line_back {d : Dat} (h : isStep d = true) : wordsT (lineD d) = d := by
  obtain ⟨ws, rfl, hne, _, hw⟩ := step_words h
  unfold lineD wordsT
  rw [words_map, TL.split_join (y := " ") (s := 32) (S := []) (by decide +kernel) (by decide +kernel) hne fun p hp hc => by
    have := (hw p hp).2.2 32 hc
    exact absurd this.1 (by decide)]
theorem text_back {xs : List Dat} (h : ∀ x ∈ xs, isStep x = true) : stepsOf (textD xs) = xs := by
  cases xs with
  | nil =>
    have e : textD [] = "" := by decide +kernel
    rw [e]
    unfold stepsOf linesOf
    rw [if_pos rfl]
    rfl
  | cons x r =>
    have hs : Txt.split (textD (x :: r)) "\n" = (x :: r).map lineD := by
      unfold textD
      refine TL.split_join (y := "\n") (s := 10) (S := []) (by decide +kernel) (by decide +kernel) (by simp) fun p hp hc => ?_
      obtain ⟨d, hd, rfl⟩ := List.mem_map.mp hp
      rcases line_signs (h d hd) hc with z | z
      · exact absurd z (by decide)
      · exact absurd z.1 (by decide)
    have hne : textD (x :: r) ≠ "" := fun e => by
      obtain ⟨ws, e1, hne, _, hw⟩ := step_words (h x (by simp))
      obtain ⟨w, ws', rfl⟩ := List.exists_cons_of_ne_nil hne
      have hz : 0 < w.cps.toList.length := by
        have := (hw w (by simp)).1
        rw [Array.length_toList]
        omega
      have hc : w.cps.toList[0] ∈ TL.tl w := List.getElem_mem hz
      have h1 : w.cps.toList[0] ∈ TL.tl (lineD x) := by
        rw [e1]
        unfold lineD
        rw [words_map, TL.join_eq, TL.tl_join]
        exact mem_joinL hc (List.mem_map_of_mem (by simp))
      have h2 : w.cps.toList[0] ∈ TL.tl (textD (x :: r)) := by
        unfold textD
        rw [TL.join_eq, TL.tl_join]
        exact mem_joinL h1 (List.mem_map_of_mem (List.mem_map_of_mem (by simp)))
      rw [e] at h2
      have e0 : TL.tl ("" : Str) = [] := by decide +kernel
      rw [e0] at h2
      cases h2
    unfold stepsOf linesOf
    rw [if_neg hne, hs, List.map_map]
    have : ∀ ys : List Dat, (∀ y ∈ ys, isStep y = true) → ys.map (wordsT ∘ lineD) = ys := fun ys hy => by
      induction ys with
      | nil => rfl
      | cons y q ih =>
        rw [List.map_cons, ih fun z hz => hy z (by simp [hz])]
        show wordsT (lineD y) :: q = y :: q
        rw [line_back (hy y (by simp))]
    exact this _ h
theorem steps_in {xs : List Dat} (hl : xs.length ≤ 500) (h : ∀ x ∈ xs, isStep x = true) : InV 2 (.tup xs) := by
  refine .inr ⟨xs, rfl, hl, fun x hx => ?_⟩
  obtain ⟨ws, rfl, _, hl2, hw⟩ := step_words (h x hx)
  refine .inr ⟨_, rfl, by rw [List.length_map]; omega, fun y hy => ?_⟩
  obtain ⟨w, hww, rfl⟩ := List.mem_map.mp hy
  show w.cps.size ≤ 60
  have := (hw w hww).2.1
  omega
theorem steps_run {xs : List Dat} (hl : xs.length ≤ 1100) (h : ∀ x ∈ xs, isStep x = true) : runD (.tup xs) := by
  refine ⟨rfl, fun ys e => ?_⟩
  cases e
  refine ⟨hl, fun x hx => ?_⟩
  obtain ⟨ws, rfl, _, _, _⟩ := step_words (h x hx)
  exact ⟨rfl, fun zs e u hu => by
    have e := Dat.tup.inj e
    subst e
    obtain ⟨z, _, rfl⟩ := List.mem_map.mp hu
    rfl⟩
def spRight : DSp := fun ds n Q _ => ds = [.pot] ∧ n < 700000 ∧ ∀ m, n ≤ m → m ≤ n + 1000 → Q (.bl true) m
theorem out_run {v : Dat} {j : Nat} (h : OutV (j + 1) v) : runD v := by
  refine ⟨h.ty, fun xs e => ?_⟩
  subst e
  rcases h with h | ⟨ys, e, l, q⟩
  · cases h
  · rcases e with e | e <;> cases e
    refine ⟨by omega, fun x hx => ⟨(q x hx).ty, fun zs e u hu => ?_⟩⟩
    subst e
    have q2 := q _ hx
    cases j with
    | zero => cases q2
    | succ j =>
      rcases q2 with h | ⟨ys, e, l, q3⟩
      · cases h
      · rcases e with e | e <;> cases e
        exact (q3 u hu).ty
theorem sc__law_right : FnScope ["_law_pot_here", "_law_steps", "_law_page", "_law_turn"] ["_law_pot_here"] (defScope (top 43)) := ⟨rfl, rfl, rfl, by decide +kernel, rfl, by decide +kernel, by decide +kernel⟩
theorem ok_right {G : Bool} (F : Has K mg "_law_right" (top 43)) (T : Blt mg)
    (D__law_take : Df P w K mg base false 1 "_law_take" (LSp K TT spTake)) (D__law_of : Df P w K mg base false 2 "_law_of" (LSp K TT spOf)) (D__law_step : Df P w K mg base false 5 "_law_step" (LSp K TT spStep)) (D__law_text : Df P w K mg base false 1 "_law_text" (LSp K TT spText))
    (D__law_shown_right : Df P w K mg base false 9 "_law_shown_right" (LSp K TT spShown)) (D__law_read_right : Df P w K mg base false 9 "_law_read_right" (LSp K TT spReadR)) (D__law_same : Df P w K mg base false 4 "_law_same" (LSp K TT (spSame 2)))
    (DK_show_run : DfK P w K mg base false 4 "show_run" ["run"] (LSp K TT (spShow C_BadRun))) (DK_read_run : DfK P w K mg base false 4 "read_run" ["text"] (LSp K TT (spRead C_BadText))) (D__law_bent : Df P w K mg base false 7 "_law_bent" (LSp K TT (spBent 2)))
    (D__law_bent_text : Df P w K mg base false 3 "_law_bent_text" (LSp K TT spBentT)) (D__law_odd_right : Df P w K mg base false 9 "_law_odd_right" (LSp K TT spOddR)) : Df P w K mg base G 10 "_law_right" (LSp K TT spRight) := by
  refine dat_ok F (fun f fd F => F.binds (fun _ _ _ _ _ _ us hl => match us, hl with | [_], _ => rfl)) sc__law_right (fun f cdv A outer s H E hr hG => ⟨_, (dss_cons (ds_set (i := 1) sc__law_right.nd rfl (Or.inl rfl) (de_cb cd_tup (pe_callTy call_tuple_of rfl T.n_tuple boot_tuple (da_cons (de_fr (lf_lcI (own := [("_law_turn", 3)]) rfl sc__law_right.nd (di_rng1 (pi_range1 rfl T.n_range (da_cons (de_call D__law_take hr (by first | decide | omega) (by first | exact hG | (intro z; cases z)) rfl passL (da_cons (de_var (pv 0)) (da_cons de_int da_nil))) da_nil))) (blkOk_by rfl) (fun _ _ _ _ _ => (dg_name (pg_name (i := 3) sc__law_right.nd rfl (Or.inl rfl) (Or.inr rfl)))) (fun _ _ _ _ _ => dts_nil) (fun _ _ _ _ _ => (de_call D__law_step hr (by first | decide | omega) (by first | exact hG | (intro z; cases z)) rfl passL (da_cons (de_var (pv 0)) da_nil))))) da_nil))))
      (dss_cons (ds_set (i := 2) sc__law_right.nd rfl (Or.inl rfl) (de_call D__law_text hr (by first | decide | omega) (by first | exact hG | (intro z; cases z)) rfl passL (da_cons (de_var (pv 1)) da_nil)))
      (dss_cons (ds_if (PW.pt (dw_or (dt_not (dt_val (de_call D__law_shown_right hr (by first | decide | omega) (by first | exact hG | (intro z; cases z)) rfl passL (da_cons (de_var (pv 1)) da_nil)))) (dw_or1 (dt_not (dt_val (de_call D__law_read_right hr (by first | decide | omega) (by first | exact hG | (intro z; cases z)) rfl passL (da_cons (de_var (pv 2)) da_nil))))))) (dss_one (ds_ret de_bl)) dss_nil)
      (dss_cons (ds_if (PW.pt (dw_or (dt_not (dt_val (de_call D__law_same hr (by first | decide | omega) (by first | exact hG | (intro z; cases z)) rfl passL (da_cons (de_callK DK_show_run hr (by first | decide | omega) (by first | exact hG | (intro z; cases z)) rfl passL (dk_cons (de_var (pv 1)) dk_nil)) (da_cons (de_var (pv 2)) da_nil))))) (dw_or1 (dt_not (dt_val (de_call D__law_same hr (by first | decide | omega) (by first | exact hG | (intro z; cases z)) rfl passL (da_cons (de_callK DK_read_run hr (by first | decide | omega) (by first | exact hG | (intro z; cases z)) rfl passL (dk_cons (de_var (pv 2)) dk_nil)) (da_cons (de_var (pv 1)) da_nil)))))))) (dss_one (ds_ret de_bl)) dss_nil)
      (dss_cons (ds_if (PW.pt (dw_or (dt_not (dt_val (de_call D__law_shown_right hr (by first | decide | omega) (by first | exact hG | (intro z; cases z)) rfl passL (da_cons (de_call D__law_bent hr (by first | decide | omega) (by first | exact hG | (intro z; cases z)) rfl passL (da_cons (de_var (pv 0)) (da_cons (de_var (pv 1)) (da_cons de_int da_nil)))) da_nil)))) (dw_or1 (dt_not (dt_val (de_call D__law_read_right hr (by first | decide | omega) (by first | exact hG | (intro z; cases z)) rfl passL (da_cons (de_call D__law_bent_text hr (by first | decide | omega) (by first | exact hG | (intro z; cases z)) rfl passL (da_cons (de_var (pv 0)) (da_cons (de_var (pv 2)) da_nil))) da_nil))))))) (dss_one (ds_ret de_bl)) dss_nil)
      (dss_one (ds_ret (de_call D__law_odd_right hr (by first | decide | omega) (by first | exact hG | (intro z; cases z)) rfl passL (da_cons (de_call D__law_of hr (by first | decide | omega) (by first | exact hG | (intro z; cases z)) rfl passL (da_cons (de_var (pv 0)) (da_cons (de_lst (da_cons de_non (da_cons de_int (da_cons de_bl (da_cons (de_tup (da_cons de_str da_nil)) (da_cons (de_lst (da_cons de_str da_nil)) (da_cons (de_tup da_nil) (da_cons de_dict0 (da_cons (de_op op_powW (od_IC _) de_int de_int) da_nil))))))))) da_nil))) da_nil))))))))), fun ds n PP R h => ?_⟩) (fun ds n PP R h => ?_)
  · obtain ⟨rfl, hn, k⟩ := h
    refine ⟨rfl, ?_⟩
    refine ⟨11, rfl, by omega, by decide, by decide, fun r r0 r1 => ?_⟩
    refine ⟨by omega, fun i acc m => acc.length = i ∧ (∀ x ∈ acc, isStep x = true) ∧ n + 1 ≤ m ∧ m ≤ n + 1 + 11 * i, ⟨rfl, fun x hx => by simp at hx, by omega, by omega⟩, ?_, ?_⟩
    · rintro i d acc m hd ⟨hl, hs, m0, m1⟩
      obtain ⟨e1, _⟩ := List.getElem?_eq_some_iff.mp hd
      rw [numL_len] at e1
      refine ⟨rfl, by omega, fun y m' h1 h2 hy => ⟨by rw [List.length_append, List.length_singleton]; omega, fun x hx => ?_, by omega, by omega⟩⟩
      rcases List.mem_append.mp hx with z | z
      · exact hs x z
      · rw [List.mem_singleton.mp z]
        exact hy
    · rintro acc m ⟨hl, hs, m0, m1⟩
      rw [numL_len] at hl m1
      have hl10 : acc.length ≤ 10 := by omega
      have hm : m ≤ n + 111 := by omega
      obtain ⟨t1, t2, t3⟩ := lines_room (xs := acc) (by omega) hs
      have hrun := steps_run (by omega : acc.length ≤ 1100) hs
      have hpage : pageB (textD acc) := ⟨t2, by omega⟩
      have hpd : pageD (.str (textD acc)) := ⟨rfl, fun y e => by cases e; exact hpage⟩
      refine ⟨acc, rfl, by omega, hs, ?_⟩
      refine ⟨.tup acc, rfl, hrun, ⟨textD acc, rfl, hpage, ?_⟩⟩
      have hshow : showAns (.tup acc) = .ok (.str (textD acc)) := by rw [showAns_tup, badAt_none hs]
      have hread : readAns (.str (textD acc)) = .ok (.tup acc) := by rw [readAns_str, text_back hs, badAt_none hs]
      obtain ⟨sl1, sl2⟩ := steps_lvl (xs := acc) fun x hx => by
        obtain ⟨ws, e, _⟩ := step_words (hs x hx)
        exact ⟨ws, e⟩
      refine ⟨.tup acc, rfl, hrun, ?_⟩
      rw [hshow]
      refine ⟨.str (textD acc), .str (textD acc), rfl, .inl rfl, rfl, rfl, ?_⟩
      show if (!sameD (.str (textD acc)) (.str (textD acc))) = true then _ else _
      rw [show sameD (.str (textD acc)) (.str (textD acc)) = true from beq_self_eq_true _]
      refine iteF ?_
      refine ⟨.str (textD acc), rfl, hpd, ?_⟩
      rw [hread]
      refine ⟨.tup acc, .tup acc, rfl, sl1, sl2, sl2, ?_⟩
      show if (!sameD (.tup acc) (.tup acc)) = true then _ else _
      rw [sameD_refl sl1 sl2]
      refine iteF ?_
      refine ⟨2, .tup acc, rfl, by decide, steps_in (by omega) hs, by omega, fun v m' h1 h2 hv => ?_⟩
      refine ⟨v, rfl, out_run hv, ?_⟩
      refine ⟨textD acc, rfl, t2, by omega, by omega, fun y m2 hy hl2 h3 h4 => ?_⟩
      refine ⟨y, rfl, ⟨hy, by omega⟩, ?_⟩
      refine ⟨by show 1 ≤ sizeLine; decide, by show 1 ≤ sizeLine; decide, by show 0 ≤ sizeLine; decide, ⟨by decide, by decide⟩, by show 8 ≤ sizeLine; decide, ?_⟩
      refine ⟨([.non, .int 0, .bl true, .tup [.str "tick"], .lst [.str "tick"], .tup [], .dct [] [], .int (10 ^ 40)] : List Dat), .inl rfl, by omega, by show 0 < 8; decide, by show 8 ≤ 1000000; decide, fun u hu => ?_⟩
      have hu2 : (tyK u).isSome = true ∧ ∀ x, u ≠ .str x := by
        simp only [List.mem_cons, List.not_mem_nil, or_false] at hu
        rcases hu with rfl | rfl | rfl | rfl | rfl | rfl | rfl | rfl <;> exact ⟨rfl, fun x e => by cases e⟩
      exact ⟨u, rfl, hu2.1, hu2.2, k _ (by omega) (by omega)⟩
  · obtain ⟨rfl, _⟩ := h
    rfl
theorem sc_law : FnScope ["_law_script", "_law_place", "_law_pot_here", "_law_turn"] ["_law_script"] (defScope (top 44)) := ⟨rfl, rfl, rfl, by decide +kernel, rfl, by decide +kernel, by decide +kernel⟩
theorem ok_law {G : Bool} (F : Has K mg "law" (top 44)) (T : Blt mg) (D__law_cells : Df P w K mg base false 1 "_law_cells" (LSp K TT spCells)) (D__law_pot : Df P w K mg base false 1 "_law_pot" (LSp K TT spPot)) (D__law_right : Df P w K mg base false 10 "_law_right" (LSp K TT spRight)) : DfW P w K mg base G 11 "law" (top 44) ["_law_script"] (LSp K TT spLaw) := by
  refine dat_okW F (fun f fd F => F.binds (fun _ _ _ _ _ _ us hl => match us, hl with | [_], _ => rfl)) sc_law (fun f cdv A outer s H E hr hG => ⟨_, (dss_cons (ds_forI (passes_of rfl) rfl (di_list (de_call D__law_cells hr (by first | decide | omega) (by first | exact hG | (intro z; cases z)) rfl (passes_call (takes_of rfl rfl rfl rfl) (fun _ _ _ _ h => h)) (da_cons (de_var (pv 0)) (da_cons de_int da_nil)))) (dg_name (pg_name (i := 1) sc_law.nd rfl (Or.inl rfl) (Or.inl rfl))) (dss_cons (ds_set (i := 2) sc_law.nd rfl (Or.inr rfl) (de_call D__law_pot hr (by first | decide | omega) (by first | exact hG | (intro z; cases z)) rfl (passes_call (takes_of rfl rfl rfl rfl) (fun _ _ _ _ h => h)) (da_cons (de_var (pv 0)) (da_cons (de_var (pv 1)) da_nil))))
      (dss_one (ds_if (dt_not (dt_val (de_cb cd_all (pe_callB (cr_all rfl) rfl T.n_all boot_all (da_cons (de_fr (lf_lcI (own := [("_law_turn", 3)]) rfl sc_law.nd (di_rng1 (pi_range1 rfl T.n_range (da_cons de_int da_nil))) (blkOk_by rfl) (fun _ _ _ _ _ => (dg_name (pg_name (i := 3) sc_law.nd rfl (Or.inl rfl) (Or.inr rfl)))) (fun _ _ _ _ _ => dts_nil) (fun _ _ _ _ _ => (de_call D__law_right hr (by first | decide | omega) (by first | exact hG | (intro z; cases z)) rfl passL (da_cons (de_var (pv 2)) da_nil))))) da_nil))))) (dss_one (ds_ret de_bl)) dss_nil))))
      (dss_one (ds_ret de_bl))), fun ds n PP R h => ?_⟩) (fun ds n PP R h => ?_)
  · obtain ⟨ns, rfl, hl, hb, rfl, k⟩ := h
    refine ⟨rfl, ?_⟩
    refine ⟨ns, 3, rfl, hl, by decide, fun q q1 q2 => ?_⟩
    have q3 : q ≤ 3 := by omega
    refine ⟨fun i ρ' m => ∃ s1 s2 s3 : Sl, ρ' = [.val (.scr ns), s1, s2, s3] ∧ m ≤ 4100 * i, ⟨.no, .no, .no, rfl, by omega⟩, ?_, ?_⟩
    · rintro i d ρ' m hd ⟨s1, s2, s3, rfl, hm⟩
      obtain ⟨e1, _⟩ := List.getElem?_eq_some_iff.mp hd
      rw [numL_len] at e1
      rw [numL_get _ _ _ e1] at hd
      cases hd
      refine ⟨ns, 0 + (i : Int), rfl, by omega, by omega, hb, hl, ?_⟩
      refine ⟨by decide, fun j acc m' => acc = (List.replicate j true).map Dat.bl ∧ m' ≤ m + 1000 * j, ⟨rfl, by omega⟩, ?_, ?_⟩
      · rintro j a acc m' ha ⟨rfl, hm'⟩
        obtain ⟨ea, _⟩ := List.getElem?_eq_some_iff.mp ha
        have ea : j < 4 := by
          rw [numL_len] at ea
          exact ea
        refine ⟨rfl, by omega, fun m2 h1 h2 => ⟨?_, by omega⟩⟩
        rw [List.replicate_succ', List.map_append]
        rfl
      · rintro acc m' ⟨rfl, hm'⟩
        refine bools_map _ ?_
        rw [numL_len] at hm' ⊢
        have hm' : m' ≤ m + 1000 * 4 := hm'
        exact ⟨_, _, _, rfl, by omega⟩
    · rintro ρ' m ⟨s1, s2, s3, rfl, hm⟩
      exact k m
  · obtain ⟨ns, rfl, _⟩ := h
    rfl
end
end
end Aim

namespace Aim
open PySem PySem.Spec PyProof.Rows L2 RZ
open LamX (TabB Tabs)
theorem strB_all {l : List Str} (h : (l.all fun x => decide (x.length ≤ sizeLine) && x.cps.all (fun c => decide (c < 0x110000))) = true) : ∀ y ∈ l, StrB y := fun y hy => strB_dec (List.all_eq_true.mp h y hy)
theorem fin {l : PySem.W.OpenLaw} {w : World} {K : PySem.W.Frag} {h : Heap} {mg : Str → Option Value} {fa : Addr} {q : Program} (X : K.In h) (G : h.Ns mainGlobals mg) (hfa : mg "law" = some (.ref fa))
    (tabs : ∀ (x : Str) (d : DefRec) (c P : Addr), (recsOf q).find? (fun e => e.name == x) = some d → PySem.W.tabIn K x = some (c, P) → PySem.W.CodeHd h c P ∧ h.get? P = some tab0)
    (q_is_name : Has K mg "is_name" (top 3)) (q_has_step_form : Has K mg "has_step_form" (top 14)) (q_step_line : Has K mg "step_line" (top 15)) (q_read_step : Has K mg "read_step" (top 16)) (q_show_run : Has K mg "show_run" (top 17)) (q_check_text : Has K mg "check_text" (top 18)) (q_read_run : Has K mg "read_run" (top 19)) (q_lines_of : Has K mg "lines_of" (top 20)) (q__law_pot : Has K mg "_law_pot" (top 22)) (q__law_take : Has K mg "_law_take" (top 23)) (q__law_of : Has K mg "_law_of" (top 24)) (q__law_cells : Has K mg "_law_cells" (top 25)) (q__law_letter : Has K mg "_law_letter" (top 26)) (q__law_word_of_lines : Has K mg "_law_word_of_lines" (top 27)) (q__law_name : Has K mg "_law_name" (top 28)) (q__law_caught : Has K mg "_law_caught" (top 29)) (q__law_same : Has K mg "_law_same" (top 30)) (q__law_is : Has K mg "_law_is" (top 31)) (q__law_odd : Has K mg "_law_odd" (top 32)) (q__law_is_name : Has K mg "_law_is_name" (top 33)) (q__law_bent_row : Has K mg "_law_bent_row" (top 34)) (q__law_bent : Has K mg "_law_bent" (top 35)) (q__law_step : Has K mg "_law_step" (top 36)) (q__law_is_step : Has K mg "_law_is_step" (top 37)) (q__law_text : Has K mg "_law_text" (top 38)) (q__law_bent_text : Has K mg "_law_bent_text" (top 41)) (q__law_right : Has K mg "_law_right" (top 43)) (q_law : Has K mg "law" (top 44))
    {t_LETTERS : Tok} {t_MOST_LETTERS : Tok} {t_FEED : Tok} {t_BLANK : Tok} {t_PAIR : Tok} {t_BARE_STEPS_0 t_BARE_STEPS_1 t_BARE_STEPS_2 t_BARE_STEPS_3 : Tok} {d_BARE_STEPS : Option Addr} {n_BARE_STEPS : Nat} {s_BARE_STEPS : Array (Option Value)} {a_BARE_STEPS : Addr} {t_NAMED_STEPS_0 t_NAMED_STEPS_1 t_NAMED_STEPS_2 : Tok} {d_NAMED_STEPS : Option Addr} {n_NAMED_STEPS : Nat} {s_NAMED_STEPS : Array (Option Value)} {a_NAMED_STEPS : Addr} {fL0 cL0 PL0 : Addr} {ocL0 dcL0 pmL0 ctL0 kVL0 ccL0 : Value} {odL0 anL0 cdL0 : Option Addr} {slL0 csL0 : Array (Option Value)} {vsL0 : Array Value} {dL0 : DefRec} {fL1 cL1 PL1 : Addr} {ocL1 dcL1 pmL1 ctL1 kVL1 ccL1 : Value} {odL1 anL1 cdL1 : Option Addr} {slL1 csL1 : Array (Option Value)} {vsL1 : Array Value} {dL1 : DefRec} {fL2 cL2 PL2 : Addr} {ocL2 dcL2 pmL2 ctL2 kVL2 ccL2 : Value} {odL2 anL2 cdL2 : Option Addr} {slL2 csL2 : Array (Option Value)} {vsL2 : Array Value} {dL2 : DefRec} {AE fI cda cc E_BadRun E_BadText : Addr} {ocI kVI docI pmI ctI cclI clI : Value} {odI anI cddI cldI : Option Addr} {oslI ccsI cslI : Array (Option Value)} {vsI : Array Value} {file : Str} {tf : Tok} {cdD : ClassData} {nm_BadRun qn_BadRun : Str} {N_BadRun : Addr} {bs_BadRun bm_BadRun : List Value} {sn_BadRun sub_BadRun ab_BadRun col_BadRun dd_BadRun k0_BadRun k1_BadRun k2_BadRun k3_BadRun k5_BadRun} {nm_BadText qn_BadText : Str} {N_BadText : Addr} {bs_BadText bm_BadText : List Value} {sn_BadText sub_BadText ab_BadText col_BadText dd_BadText k0_BadText k1_BadText k2_BadText k3_BadText k5_BadText}
    (z_len : PySem.W.nsIn K mainGlobals "len" = some none)
    (z_int : PySem.W.nsIn K mainGlobals "int" = some none)
    (z_abs : PySem.W.nsIn K mainGlobals "abs" = some none)
    (z_isinstance : PySem.W.nsIn K mainGlobals "isinstance" = some none)
    (z_bool : PySem.W.nsIn K mainGlobals "bool" = some none)
    (z_str : PySem.W.nsIn K mainGlobals "str" = some none)
    (z_list : PySem.W.nsIn K mainGlobals "list" = some none)
    (z_tuple : PySem.W.nsIn K mainGlobals "tuple" = some none)
    (z_range : PySem.W.nsIn K mainGlobals "range" = some none)
    (z_max : PySem.W.nsIn K mainGlobals "max" = some none)
    (z_min : PySem.W.nsIn K mainGlobals "min" = some none)
    (z_all : PySem.W.nsIn K mainGlobals "all" = some none)
    (z_any : PySem.W.nsIn K mainGlobals "any" = some none)
    (z_zip : PySem.W.nsIn K mainGlobals "zip" = some none)
    (z_repr : PySem.W.nsIn K mainGlobals "repr" = some none)
    (z_super : PySem.W.nsIn K mainGlobals "super" = some none)
    (z_sorted : PySem.W.nsIn K mainGlobals "sorted" = some none)
    (z_enumerate : PySem.W.nsIn K mainGlobals "enumerate" = some none)
    (z_dict : PySem.W.nsIn K mainGlobals "dict" = some none)
    (z_set : PySem.W.nsIn K mainGlobals "set" = some none)
    (z_bytes : PySem.W.nsIn K mainGlobals "bytes" = some none)
    (z_sum : PySem.W.nsIn K mainGlobals "sum" = some none)
    (g_LETTERS : PySem.W.nsIn K mainGlobals "LETTERS" = some (some (.str "abcdefghijklmnopqrstuvwxyz" t_LETTERS)))
    (g_MOST_LETTERS : PySem.W.nsIn K mainGlobals "MOST_LETTERS" = some (some (.int 8 t_MOST_LETTERS)))
    (g_FEED : PySem.W.nsIn K mainGlobals "FEED" = some (some (.str "\n" t_FEED)))
    (g_BLANK : PySem.W.nsIn K mainGlobals "BLANK" = some (some (.str " " t_BLANK)))
    (g_PAIR : PySem.W.nsIn K mainGlobals "PAIR" = some (some (.int 2 t_PAIR)))
    (g_BARE_STEPS : PySem.W.nsIn K mainGlobals "BARE_STEPS" = some (some (.ref a_BARE_STEPS)))
    (l_BARE_STEPS : K.lookup a_BARE_STEPS = some ⟨.type "tuple", d_BARE_STEPS, .seq #[.str "tick" t_BARE_STEPS_0, .str "forget" t_BARE_STEPS_1, .str "down" t_BARE_STEPS_2, .str "up" t_BARE_STEPS_3] n_BARE_STEPS, s_BARE_STEPS⟩)
    (g_NAMED_STEPS : PySem.W.nsIn K mainGlobals "NAMED_STEPS" = some (some (.ref a_NAMED_STEPS)))
    (l_NAMED_STEPS : K.lookup a_NAMED_STEPS = some ⟨.type "tuple", d_NAMED_STEPS, .seq #[.str "announce" t_NAMED_STEPS_0, .str "update" t_NAMED_STEPS_1, .str "look" t_NAMED_STEPS_2] n_NAMED_STEPS, s_NAMED_STEPS⟩)
    (rL0 : (recsOf q).find? (fun e => e.name == ("_law_shown_right" : Str)) = some dL0)
    (aL0 : PySem.W.nsIn K mainGlobals "_law_shown_right" = some (some (.ref fL0)))
    (lL0 : K.lookup fL0 = some ⟨ocL0, odL0, .func (PySem.W.fnOf "_law_shown_right" "_law_shown_right" (defArgs (top 39)) (defBody (top 39)) (defScope (top 39)) .none kVL0 dcL0 pmL0 anL0 (.ref cL0) ctL0), slL0⟩)
    (coL0 : PySem.W.codeIn K (.ref cL0) "_law_shown_right" = true)
    (kL0 : PySem.W.keepIn K (.ref fL0) = true)
    (lcL0 : K.lookup cL0 = some ⟨ccL0, cdL0, .fields vsL0, csL0⟩)
    (eL0 : (vsL0[11]? : Option Value) = some (.ref PL0))
    (nL0 : K.lookup PL0 = none)
    (rL1 : (recsOf q).find? (fun e => e.name == ("_law_read_right" : Str)) = some dL1)
    (aL1 : PySem.W.nsIn K mainGlobals "_law_read_right" = some (some (.ref fL1)))
    (lL1 : K.lookup fL1 = some ⟨ocL1, odL1, .func (PySem.W.fnOf "_law_read_right" "_law_read_right" (defArgs (top 40)) (defBody (top 40)) (defScope (top 40)) .none kVL1 dcL1 pmL1 anL1 (.ref cL1) ctL1), slL1⟩)
    (coL1 : PySem.W.codeIn K (.ref cL1) "_law_read_right" = true)
    (kL1 : PySem.W.keepIn K (.ref fL1) = true)
    (lcL1 : K.lookup cL1 = some ⟨ccL1, cdL1, .fields vsL1, csL1⟩)
    (eL1 : (vsL1[11]? : Option Value) = some (.ref PL1))
    (nL1 : K.lookup PL1 = none)
    (rL2 : (recsOf q).find? (fun e => e.name == ("_law_odd_right" : Str)) = some dL2)
    (aL2 : PySem.W.nsIn K mainGlobals "_law_odd_right" = some (some (.ref fL2)))
    (lL2 : K.lookup fL2 = some ⟨ocL2, odL2, .func (PySem.W.fnOf "_law_odd_right" "_law_odd_right" (defArgs (top 42)) (defBody (top 42)) (defScope (top 42)) .none kVL2 dcL2 pmL2 anL2 (.ref cL2) ctL2), slL2⟩)
    (coL2 : PySem.W.codeIn K (.ref cL2) "_law_odd_right" = true)
    (kL2 : PySem.W.keepIn K (.ref fL2) = true)
    (lcL2 : K.lookup cL2 = some ⟨ccL2, cdL2, .fields vsL2, csL2⟩)
    (eL2 : (vsL2[11]? : Option Value) = some (.ref PL2))
    (nL2 : K.lookup PL2 = none)
    (nd : [PL0, PL1, PL2].Nodup)
    (m_AE : PySem.W.nsIn K mainGlobals "AimError" = some (some (.ref AE)))
    (m_BadRun : PySem.W.nsIn K mainGlobals "BadRun" = some (some (.ref E_BadRun)))
    (m_BadText : PySem.W.nsIn K mainGlobals "BadText" = some (some (.ref E_BadText)))
    (iniCT : PySem.W.findIn K (.ref E_BadRun) "__init__" = some (some (.ref fI)))
    (lI : K.lookup fI = some ⟨ocI, odI, .func (PySem.W.fnX "__init__" "AimError.__init__" (defArgs (inClass (top 5) 0)) (defBody (inClass (top 5) 0)) (defScope (inClass (top 5) 0)) [("__class__", cc)] .none kVI docI pmI anI (.ref cda) ctI), oslI⟩)
    (cI : PySem.W.codeIn K (.ref cda) "AimError.__init__" = true)
    (lcI : K.lookup cda = some ⟨cclI, cddI, .fields vsI, ccsI⟩)
    (e1I : vsI[2]? = some (.str file tf))
    (e2I : ((l.prog.main.file : Str) == file) = true)
    (lccI : K.lookup cc = some ⟨clI, cldI, .cell (some (.ref AE)), cslI⟩)
    (hDI : PySem.W.clsIn K AE = some cdD)
    (tII : PySem.W.typeIn K (.ref fI) = some (.type "function"))
    (topI : (l.prog.main.scope.names.lookup ("super" : Str)).isSome = false)
    (thI : PySem.W.nsIn K cStatics "thirdparty.any" = some none)
    (lc_BadRun : K.lookup E_BadRun = some (excClassObj nm_BadRun qn_BadRun E_BadRun N_BadRun bs_BadRun bm_BadRun true sn_BadRun sub_BadRun ab_BadRun col_BadRun dd_BadRun k0_BadRun k1_BadRun k2_BadRun k3_BadRun k5_BadRun "ValueError.__new__"))
    (bm_BadRun : PySem.HandSPX.refsVE bm_BadRun = true)
    (sa_BadRun : PySem.W.findIn K (.ref E_BadRun) "__setattr__" = some (some (.builtin "object.__setattr__")))
    (ex_BadRun : PySem.W.subIn K (.ref E_BadRun) (.type "BaseException") = some true)
    (ty_BadRun : PySem.W.typeIn K (.ref E_BadRun) = some (.type "type"))
    (kc_BadRun : PySem.W.keepIn K (.ref E_BadRun) = true)
    (ga_BadRun : PySem.W.findIn K (.ref E_BadRun) "__getattribute__" = some (some (.builtin "BaseException.__getattribute__")))
    (gg_BadRun : PySem.W.findIn K (.ref E_BadRun) "__getattr__" = some none)
    (hd_BadRun : PySem.W.hasDictIn K E_BadRun = true)
    (sb_BadRun : PySem.W.mroIn K E_BadRun (.ref AE) = some true)
    (su_BadRun : PySem.W.ks_superIn K E_BadRun AE "__init__" = some (some (.builtin "ValueError.__init__")))
    (ve_BadRun : PySem.W.subIn K (.ref E_BadRun) (.type "ValueError") = some true)
    (nv_BadRun : PySem.W.findIn K (.ref E_BadRun) "value" = some none)
    (in_BadRun : PySem.W.findIn K (.ref E_BadRun) "__init__" = some (some (.ref fI)))
    (ow_BadRun : PySem.W.findIn K (.ref E_BadRun) "__class__" = some (some (.builtin "object.__class__")))
    (ob_BadRun : PySem.W.mroIn K E_BadRun (.type "object") = some true)
    (x_BadRun : PySem.W.exmOne K (.ref E_BadRun) (.ref AE) = some true)
    (i_BadRun : PySem.W.kitOne K (.ref E_BadRun) (.ref E_BadRun) = some true)
    (lc_BadText : K.lookup E_BadText = some (excClassObj nm_BadText qn_BadText E_BadText N_BadText bs_BadText bm_BadText true sn_BadText sub_BadText ab_BadText col_BadText dd_BadText k0_BadText k1_BadText k2_BadText k3_BadText k5_BadText "ValueError.__new__"))
    (bm_BadText : PySem.HandSPX.refsVE bm_BadText = true)
    (sa_BadText : PySem.W.findIn K (.ref E_BadText) "__setattr__" = some (some (.builtin "object.__setattr__")))
    (ex_BadText : PySem.W.subIn K (.ref E_BadText) (.type "BaseException") = some true)
    (ty_BadText : PySem.W.typeIn K (.ref E_BadText) = some (.type "type"))
    (kc_BadText : PySem.W.keepIn K (.ref E_BadText) = true)
    (ga_BadText : PySem.W.findIn K (.ref E_BadText) "__getattribute__" = some (some (.builtin "BaseException.__getattribute__")))
    (gg_BadText : PySem.W.findIn K (.ref E_BadText) "__getattr__" = some none)
    (hd_BadText : PySem.W.hasDictIn K E_BadText = true)
    (sb_BadText : PySem.W.mroIn K E_BadText (.ref AE) = some true)
    (su_BadText : PySem.W.ks_superIn K E_BadText AE "__init__" = some (some (.builtin "ValueError.__init__")))
    (ve_BadText : PySem.W.subIn K (.ref E_BadText) (.type "ValueError") = some true)
    (nv_BadText : PySem.W.findIn K (.ref E_BadText) "value" = some none)
    (in_BadText : PySem.W.findIn K (.ref E_BadText) "__init__" = some (some (.ref fI)))
    (ow_BadText : PySem.W.findIn K (.ref E_BadText) "__class__" = some (some (.builtin "object.__class__")))
    (ob_BadText : PySem.W.mroIn K E_BadText (.type "object") = some true)
    (x_BadText : PySem.W.exmOne K (.ref E_BadText) (.ref AE) = some true)
    (i_BadText : PySem.W.kitOne K (.ref E_BadText) (.ref E_BadText) = some true)
    (gtO : PySem.W.specialIn K (.builtin "object.__class__") "__get__" = some (some (.builtin "getset_descriptor.__get__")))
    (tkO : PySem.W.takesIn K (.builtin "object.__class__") = some true) :
    AtLaw l w K 11 63 "_law_script" mg fa h := by
  have T : Blt mg := ⟨PySem.W.mg_none_of X G z_len, PySem.W.mg_none_of X G z_int, PySem.W.mg_none_of X G z_abs, PySem.W.mg_none_of X G z_isinstance, PySem.W.mg_none_of X G z_bool, PySem.W.mg_none_of X G z_str, PySem.W.mg_none_of X G z_list, PySem.W.mg_none_of X G z_tuple, PySem.W.mg_none_of X G z_range, PySem.W.mg_none_of X G z_max, PySem.W.mg_none_of X G z_min, PySem.W.mg_none_of X G z_all, PySem.W.mg_none_of X G z_any, PySem.W.mg_none_of X G z_zip, PySem.W.mg_none_of X G z_repr, PySem.W.mg_none_of X G z_super, PySem.W.mg_none_of X G z_sorted, PySem.W.mg_none_of X G z_enumerate, PySem.W.mg_none_of X G z_dict, PySem.W.mg_none_of X G z_set, PySem.W.mg_none_of X G z_bytes, PySem.W.mg_none_of X G z_sum⟩
  have Y : Cst K mg := ⟨gc_str X G g_LETTERS (strB_dec (by decide +kernel)), gc_int X G g_MOST_LETTERS, gc_str X G g_FEED (strB_dec (by decide +kernel)), gc_str X G g_BLANK (strB_dec (by decide +kernel)), gc_int X G g_PAIR, gc_strs X G (ys := ["tick", "forget", "down", "up"]) g_BARE_STEPS l_BARE_STEPS (.cons ⟨_, rfl⟩ (.cons ⟨_, rfl⟩ (.cons ⟨_, rfl⟩ (.cons ⟨_, rfl⟩ .nil)))) (by decide) (fun y hy => strB_all (l := ["tick", "forget", "down", "up"]) (by decide +kernel) y hy), gc_strs X G (ys := ["announce", "update", "look"]) g_NAMED_STEPS l_NAMED_STEPS (.cons ⟨_, rfl⟩ (.cons ⟨_, rfl⟩ (.cons ⟨_, rfl⟩ .nil))) (by decide) (fun y hy => strB_all (l := ["announce", "update", "look"]) (by decide +kernel) y hy)⟩
  have Z : Errs l.prog K mg (inClass (top 5) 0) fI AE E_BadRun E_BadText := ⟨aimI_mk ⟨⟨_, _, _, _, _, _, _, _, _, _, _, _, rfl, fun env => ⟨_, rfl⟩⟩, rfl, ⟨_, _, _, _, rfl⟩⟩ lI cI lcI e1I e2I lccI hDI tII topI thI, aimC_mk lc_BadRun bm_BadRun sa_BadRun ex_BadRun ty_BadRun kc_BadRun ga_BadRun gg_BadRun hd_BadRun sb_BadRun su_BadRun ve_BadRun nv_BadRun in_BadRun ow_BadRun gtO tkO ob_BadRun, PySem.W.mg_of X G m_BadRun, aimC_mk lc_BadText bm_BadText sa_BadText ex_BadText ty_BadText kc_BadText ga_BadText gg_BadText hd_BadText sb_BadText su_BadText ve_BadText nv_BadText in_BadText ow_BadText gtO tkO ob_BadText, PySem.W.mg_of X G m_BadText, x_BadRun, x_BadText, i_BadRun, i_BadText⟩
  have U : CauT K mg (top 29) AE := ⟨q__law_caught, ⟨_, _, _, _, _, _, _, _, _, _, _, _, _, _, _, rfl⟩, ⟨rfl, rfl, rfl, by decide +kernel, rfl, by decide +kernel, by decide +kernel⟩, rfl, rfl, rfl, rfl, (fun _ _ _ _ _ _ us hl => match us, hl with | [_], _ => rfl), PySem.W.mg_of X G m_AE⟩
  have B0 := lam_tab tabs rL0 aL0 lL0 lcL0 eL0 nL0
  have B1 := lam_tab tabs rL1 aL1 lL1 lcL1 eL1 nL1
  have B2 := lam_tab tabs rL2 aL2 lL2 lcL2 eL2 nL2
  refine at_law (TT := [(PL0, (envOfC ("_law_shown_right" : Str) (defScope (top 39)) 0 0 (.ref 0)).qual ++ "<lambda>"), (PL1, (envOfC ("_law_read_right" : Str) (defScope (top 40)) 0 0 (.ref 0)).qual ++ "<lambda>"), (PL2, (envOfC ("_law_odd_right" : Str) (defScope (top 42)) 0 0 (.ref 0)).qual ++ "<lambda>")]) (cs := [(cL0, PL0), (cL1, PL1), (cL2, PL2)]) q_law hfa (fun p hp => ?_) (fun p hp => ?_) (fun _ _ _ _ _ _ _ => rfl) (fun base TB => ?_)
  · simp only [List.mem_cons, List.not_mem_nil, or_false] at hp
    rcases hp with rfl | rfl | rfl
    · exact ⟨cL0, by simp⟩
    · exact ⟨cL1, by simp⟩
    · exact ⟨cL2, by simp⟩
  · simp only [List.mem_cons, List.not_mem_nil, or_false] at hp
    rcases hp with rfl | rfl | rfl
    · exact B0
    · exact B1
    · exact B2
  · have TTn : ([(PL0, (envOfC ("_law_shown_right" : Str) (defScope (top 39)) 0 0 (.ref 0)).qual ++ "<lambda>"), (PL1, (envOfC ("_law_read_right" : Str) (defScope (top 40)) 0 0 (.ref 0)).qual ++ "<lambda>"), (PL2, (envOfC ("_law_odd_right" : Str) (defScope (top 42)) 0 0 (.ref 0)).qual ++ "<lambda>")] : List (Addr × Str)).map Prod.fst = [PL0, PL1, PL2] := rfl
    have M0 : (PL0, (envOfC ("_law_shown_right" : Str) (defScope (top 39)) 0 0 (.ref 0)).qual ++ "<lambda>") ∈ ([(PL0, (envOfC ("_law_shown_right" : Str) (defScope (top 39)) 0 0 (.ref 0)).qual ++ "<lambda>"), (PL1, (envOfC ("_law_read_right" : Str) (defScope (top 40)) 0 0 (.ref 0)).qual ++ "<lambda>"), (PL2, (envOfC ("_law_odd_right" : Str) (defScope (top 42)) 0 0 (.ref 0)).qual ++ "<lambda>")] : List (Addr × Str)) := by simp
    have H0 := hu_at (TT := [(PL0, (envOfC ("_law_shown_right" : Str) (defScope (top 39)) 0 0 (.ref 0)).qual ++ "<lambda>"), (PL1, (envOfC ("_law_read_right" : Str) (defScope (top 40)) 0 0 (.ref 0)).qual ++ "<lambda>"), (PL2, (envOfC ("_law_odd_right" : Str) (defScope (top 42)) 0 0 (.ref 0)).qual ++ "<lambda>")]) (by rw [TTn]; exact nd) M0
    have TB0 := TB (cL0, PL0) (by simp)
    have F0 := hasC_mk X G (st := (top 39)) aL0 lL0 coL0 kL0
    have M1 : (PL1, (envOfC ("_law_read_right" : Str) (defScope (top 40)) 0 0 (.ref 0)).qual ++ "<lambda>") ∈ ([(PL0, (envOfC ("_law_shown_right" : Str) (defScope (top 39)) 0 0 (.ref 0)).qual ++ "<lambda>"), (PL1, (envOfC ("_law_read_right" : Str) (defScope (top 40)) 0 0 (.ref 0)).qual ++ "<lambda>"), (PL2, (envOfC ("_law_odd_right" : Str) (defScope (top 42)) 0 0 (.ref 0)).qual ++ "<lambda>")] : List (Addr × Str)) := by simp
    have H1 := hu_at (TT := [(PL0, (envOfC ("_law_shown_right" : Str) (defScope (top 39)) 0 0 (.ref 0)).qual ++ "<lambda>"), (PL1, (envOfC ("_law_read_right" : Str) (defScope (top 40)) 0 0 (.ref 0)).qual ++ "<lambda>"), (PL2, (envOfC ("_law_odd_right" : Str) (defScope (top 42)) 0 0 (.ref 0)).qual ++ "<lambda>")]) (by rw [TTn]; exact nd) M1
    have TB1 := TB (cL1, PL1) (by simp)
    have F1 := hasC_mk X G (st := (top 40)) aL1 lL1 coL1 kL1
    have M2 : (PL2, (envOfC ("_law_odd_right" : Str) (defScope (top 42)) 0 0 (.ref 0)).qual ++ "<lambda>") ∈ ([(PL0, (envOfC ("_law_shown_right" : Str) (defScope (top 39)) 0 0 (.ref 0)).qual ++ "<lambda>"), (PL1, (envOfC ("_law_read_right" : Str) (defScope (top 40)) 0 0 (.ref 0)).qual ++ "<lambda>"), (PL2, (envOfC ("_law_odd_right" : Str) (defScope (top 42)) 0 0 (.ref 0)).qual ++ "<lambda>")] : List (Addr × Str)) := by simp
    have H2 := hu_at (TT := [(PL0, (envOfC ("_law_shown_right" : Str) (defScope (top 39)) 0 0 (.ref 0)).qual ++ "<lambda>"), (PL1, (envOfC ("_law_read_right" : Str) (defScope (top 40)) 0 0 (.ref 0)).qual ++ "<lambda>"), (PL2, (envOfC ("_law_odd_right" : Str) (defScope (top 42)) 0 0 (.ref 0)).qual ++ "<lambda>")]) (by rw [TTn]; exact nd) M2
    have TB2 := TB (cL2, PL2) (by simp)
    have F2 := hasC_mk X G (st := (top 42)) aL2 lL2 coL2 kL2
    have Dname := ok_p_is_name (P := l.prog) (w := w) (base := base) (TT := [(PL0, (envOfC ("_law_shown_right" : Str) (defScope (top 39)) 0 0 (.ref 0)).qual ++ "<lambda>"), (PL1, (envOfC ("_law_read_right" : Str) (defScope (top 40)) 0 0 (.ref 0)).qual ++ "<lambda>"), (PL2, (envOfC ("_law_odd_right" : Str) (defScope (top 42)) 0 0 (.ref 0)).qual ++ "<lambda>")]) (G := false) q_is_name T Y
    have Dhas := ok_has (G := false) q_has_step_form T Y Dname
    have Dline := ok_step_line (P := l.prog) (w := w) (base := base) (TT := [(PL0, (envOfC ("_law_shown_right" : Str) (defScope (top 39)) 0 0 (.ref 0)).qual ++ "<lambda>"), (PL1, (envOfC ("_law_read_right" : Str) (defScope (top 40)) 0 0 (.ref 0)).qual ++ "<lambda>"), (PL2, (envOfC ("_law_odd_right" : Str) (defScope (top 42)) 0 0 (.ref 0)).qual ++ "<lambda>")]) (G := false) q_step_line T Y
    have Drs := ok_read_step (G := false) q_read_step T Y Dhas
    have Dlo := ok_lines_of (P := l.prog) (w := w) (base := base) (TT := [(PL0, (envOfC ("_law_shown_right" : Str) (defScope (top 39)) 0 0 (.ref 0)).qual ++ "<lambda>"), (PL1, (envOfC ("_law_read_right" : Str) (defScope (top 40)) 0 0 (.ref 0)).qual ++ "<lambda>"), (PL2, (envOfC ("_law_odd_right" : Str) (defScope (top 42)) 0 0 (.ref 0)).qual ++ "<lambda>")]) (G := false) q_lines_of T Y
    have Dck := ok_check_text (P := l.prog) (w := w) (base := base) (TT := [(PL0, (envOfC ("_law_shown_right" : Str) (defScope (top 39)) 0 0 (.ref 0)).qual ++ "<lambda>"), (PL1, (envOfC ("_law_read_right" : Str) (defScope (top 40)) 0 0 (.ref 0)).qual ++ "<lambda>"), (PL2, (envOfC ("_law_odd_right" : Str) (defScope (top 42)) 0 0 (.ref 0)).qual ++ "<lambda>")]) (G := false) q_check_text T Z
    have Wshow := ok_show_run (G := false) q_show_run T Y Z Dhas Dline
    have Wread := ok_read_run (G := false) q_read_run T Y Z Dck Dlo Drs
    have Kshow := Wshow.kw (ks := ["run"]) (fun _ _ _ _ _ _ us hl => match us, hl with | [_], _ => rfl)
    have Kread := Wread.kw (ks := ["text"]) (fun _ _ _ _ _ _ us hl => match us, hl with | [_], _ => rfl)
    have Dtake := ok_take (P := l.prog) (w := w) (base := base) (TT := [(PL0, (envOfC ("_law_shown_right" : Str) (defScope (top 39)) 0 0 (.ref 0)).qual ++ "<lambda>"), (PL1, (envOfC ("_law_read_right" : Str) (defScope (top 40)) 0 0 (.ref 0)).qual ++ "<lambda>"), (PL2, (envOfC ("_law_odd_right" : Str) (defScope (top 42)) 0 0 (.ref 0)).qual ++ "<lambda>")]) (G := false) q__law_take T
    have Dof := ok_of (G := false) q__law_of T Dtake
    have Dcells := ok_cells (P := l.prog) (w := w) (base := base) (TT := [(PL0, (envOfC ("_law_shown_right" : Str) (defScope (top 39)) 0 0 (.ref 0)).qual ++ "<lambda>"), (PL1, (envOfC ("_law_read_right" : Str) (defScope (top 40)) 0 0 (.ref 0)).qual ++ "<lambda>"), (PL2, (envOfC ("_law_odd_right" : Str) (defScope (top 42)) 0 0 (.ref 0)).qual ++ "<lambda>")]) (G := false) q__law_cells T
    have Dpot := ok_pot (P := l.prog) (w := w) (base := base) (TT := [(PL0, (envOfC ("_law_shown_right" : Str) (defScope (top 39)) 0 0 (.ref 0)).qual ++ "<lambda>"), (PL1, (envOfC ("_law_read_right" : Str) (defScope (top 40)) 0 0 (.ref 0)).qual ++ "<lambda>"), (PL2, (envOfC ("_law_odd_right" : Str) (defScope (top 42)) 0 0 (.ref 0)).qual ++ "<lambda>")]) (G := false) q__law_pot T
    have Dlet := ok_letter (P := l.prog) (w := w) (base := base) (TT := [(PL0, (envOfC ("_law_shown_right" : Str) (defScope (top 39)) 0 0 (.ref 0)).qual ++ "<lambda>"), (PL1, (envOfC ("_law_read_right" : Str) (defScope (top 40)) 0 0 (.ref 0)).qual ++ "<lambda>"), (PL2, (envOfC ("_law_odd_right" : Str) (defScope (top 42)) 0 0 (.ref 0)).qual ++ "<lambda>")]) (G := false) q__law_letter T
    have Dword := ok_word (G := false) q__law_word_of_lines T Dof
    have Dnm := ok_name (G := false) q__law_name T Dtake Dof Dlet Dword
    have Dis := ok_is (P := l.prog) (w := w) (base := base) (TT := [(PL0, (envOfC ("_law_shown_right" : Str) (defScope (top 39)) 0 0 (.ref 0)).qual ++ "<lambda>"), (PL1, (envOfC ("_law_read_right" : Str) (defScope (top 40)) 0 0 (.ref 0)).qual ++ "<lambda>"), (PL2, (envOfC ("_law_odd_right" : Str) (defScope (top 42)) 0 0 (.ref 0)).qual ++ "<lambda>")]) (G := false) q__law_is T
    have Dsame0 := ok_same (G := false) q__law_same T Dis 0
    have Dsame2 := ok_same (G := false) q__law_same T Dis 2
    have Dodd := ok_odd (G := false) q__law_odd T Dof
    have Dln := ok_is_name (P := l.prog) (w := w) (base := base) (TT := [(PL0, (envOfC ("_law_shown_right" : Str) (defScope (top 39)) 0 0 (.ref 0)).qual ++ "<lambda>"), (PL1, (envOfC ("_law_read_right" : Str) (defScope (top 40)) 0 0 (.ref 0)).qual ++ "<lambda>"), (PL2, (envOfC ("_law_odd_right" : Str) (defScope (top 42)) 0 0 (.ref 0)).qual ++ "<lambda>")]) (G := false) q__law_is_name T
    have Drow := ok_bent_row (G := false) q__law_bent_row T Dtake Dodd
    have Dbent := ok_bent (G := false) q__law_bent T Dtake Dis Dodd Dnm Drow 2
    have Dstep := ok_step (G := false) q__law_step T Dof Dnm
    have Disst := ok_is_step (G := false) q__law_is_step T Dln
    have Dtext := ok_text (P := l.prog) (w := w) (base := base) (TT := [(PL0, (envOfC ("_law_shown_right" : Str) (defScope (top 39)) 0 0 (.ref 0)).qual ++ "<lambda>"), (PL1, (envOfC ("_law_read_right" : Str) (defScope (top 40)) 0 0 (.ref 0)).qual ++ "<lambda>"), (PL2, (envOfC ("_law_odd_right" : Str) (defScope (top 42)) 0 0 (.ref 0)).qual ++ "<lambda>")]) (G := false) q__law_text T
    have Dbt := ok_bent_text (G := false) q__law_bent_text T Dtake Dof Dlet
    have Dsh := ok_shown (G := false) M0 H0 TB0 F0 T Z U Wshow.df Disst Dtext Dsame0
    have Drd := ok_readr (G := false) M1 H1 TB1 F1 T Z U Wread.df Disst Dsame2
    have Dor := ok_oddr (G := false) M2 H2 TB2 F2 T Z U Wread.df Dsame2
    have Dr := ok_right (G := false) q__law_right T Dtake Dof Dstep Dtext Dsh Drd Dsame2 Kshow Kread Dbent Dbt Dor
    exact ok_law q_law T Dcells Dpot Dr
end Aim

open PySem PySem.W PyProof.Rows in
set_option maxRecDepth 100000 in
set_option maxHeartbeats 0 in
theorem PySem.Challenge.cw_aimedpresses_k12_runs_as_texts_holds : PySem.Challenge.rw_aimedpresses_k12_runs_as_texts.Holds := by
  w_on; o_law; k_head; (case hw => w_witness2)
  k_fill
  refine Aim.walk_law (l := PySem.Challenge.rw_aimedpresses_k12_runs_as_texts) (n := 63) (k := 11) (x := "_law_script") rfl (by decide) rfl ⟨rfl, by decide, by decide⟩ (fun w h Y => PySem.W.km_in_of Y) ?F
  case F =>
    intro w mg fa h Y KX G hmg tabs
    have q_is_name : Aim.Has (L2.KOf KX) mg "is_name" (Aim.top 3) := by
      refine' Aim.has_mk KX G ?a ?l ?c ?k
      (case a => k_is)
      (case l => k_is)
      (case c => k_is)
      (case k => k_is)
    have q_has_step_form : Aim.Has (L2.KOf KX) mg "has_step_form" (Aim.top 14) := by
      refine' Aim.has_mk KX G ?a ?l ?c ?k
      (case a => k_is)
      (case l => k_is)
      (case c => k_is)
      (case k => k_is)
    have q_step_line : Aim.Has (L2.KOf KX) mg "step_line" (Aim.top 15) := by
      refine' Aim.has_mk KX G ?a ?l ?c ?k
      (case a => k_is)
      (case l => k_is)
      (case c => k_is)
      (case k => k_is)
    have q_read_step : Aim.Has (L2.KOf KX) mg "read_step" (Aim.top 16) := by
      refine' Aim.has_mk KX G ?a ?l ?c ?k
      (case a => k_is)
      (case l => k_is)
      (case c => k_is)
      (case k => k_is)
    have q_show_run : Aim.Has (L2.KOf KX) mg "show_run" (Aim.top 17) := by
      refine' Aim.has_mk KX G ?a ?l ?c ?k
      (case a => k_is)
      (case l => k_is)
      (case c => k_is)
      (case k => k_is)
    have q_check_text : Aim.Has (L2.KOf KX) mg "check_text" (Aim.top 18) := by
      refine' Aim.has_mk KX G ?a ?l ?c ?k
      (case a => k_is)
      (case l => k_is)
      (case c => k_is)
      (case k => k_is)
    have q_read_run : Aim.Has (L2.KOf KX) mg "read_run" (Aim.top 19) := by
      refine' Aim.has_mk KX G ?a ?l ?c ?k
      (case a => k_is)
      (case l => k_is)
      (case c => k_is)
      (case k => k_is)
    have q_lines_of : Aim.Has (L2.KOf KX) mg "lines_of" (Aim.top 20) := by
      refine' Aim.has_mk KX G ?a ?l ?c ?k
      (case a => k_is)
      (case l => k_is)
      (case c => k_is)
      (case k => k_is)
    have q__law_pot : Aim.Has (L2.KOf KX) mg "_law_pot" (Aim.top 22) := by
      refine' Aim.has_mk KX G ?a ?l ?c ?k
      (case a => k_is)
      (case l => k_is)
      (case c => k_is)
      (case k => k_is)
    have q__law_take : Aim.Has (L2.KOf KX) mg "_law_take" (Aim.top 23) := by
      refine' Aim.has_mk KX G ?a ?l ?c ?k
      (case a => k_is)
      (case l => k_is)
      (case c => k_is)
      (case k => k_is)
    have q__law_of : Aim.Has (L2.KOf KX) mg "_law_of" (Aim.top 24) := by
      refine' Aim.has_mk KX G ?a ?l ?c ?k
      (case a => k_is)
      (case l => k_is)
      (case c => k_is)
      (case k => k_is)
    have q__law_cells : Aim.Has (L2.KOf KX) mg "_law_cells" (Aim.top 25) := by
      refine' Aim.has_mk KX G ?a ?l ?c ?k
      (case a => k_is)
      (case l => k_is)
      (case c => k_is)
      (case k => k_is)
    have q__law_letter : Aim.Has (L2.KOf KX) mg "_law_letter" (Aim.top 26) := by
      refine' Aim.has_mk KX G ?a ?l ?c ?k
      (case a => k_is)
      (case l => k_is)
      (case c => k_is)
      (case k => k_is)
    have q__law_word_of_lines : Aim.Has (L2.KOf KX) mg "_law_word_of_lines" (Aim.top 27) := by
      refine' Aim.has_mk KX G ?a ?l ?c ?k
      (case a => k_is)
      (case l => k_is)
      (case c => k_is)
      (case k => k_is)
    have q__law_name : Aim.Has (L2.KOf KX) mg "_law_name" (Aim.top 28) := by
      refine' Aim.has_mk KX G ?a ?l ?c ?k
      (case a => k_is)
      (case l => k_is)
      (case c => k_is)
      (case k => k_is)
    have q__law_caught : Aim.Has (L2.KOf KX) mg "_law_caught" (Aim.top 29) := by
      refine' Aim.has_mk KX G ?a ?l ?c ?k
      (case a => k_is)
      (case l => k_is)
      (case c => k_is)
      (case k => k_is)
    have q__law_same : Aim.Has (L2.KOf KX) mg "_law_same" (Aim.top 30) := by
      refine' Aim.has_mk KX G ?a ?l ?c ?k
      (case a => k_is)
      (case l => k_is)
      (case c => k_is)
      (case k => k_is)
    have q__law_is : Aim.Has (L2.KOf KX) mg "_law_is" (Aim.top 31) := by
      refine' Aim.has_mk KX G ?a ?l ?c ?k
      (case a => k_is)
      (case l => k_is)
      (case c => k_is)
      (case k => k_is)
    have q__law_odd : Aim.Has (L2.KOf KX) mg "_law_odd" (Aim.top 32) := by
      refine' Aim.has_mk KX G ?a ?l ?c ?k
      (case a => k_is)
      (case l => k_is)
      (case c => k_is)
      (case k => k_is)
    have q__law_is_name : Aim.Has (L2.KOf KX) mg "_law_is_name" (Aim.top 33) := by
      refine' Aim.has_mk KX G ?a ?l ?c ?k
      (case a => k_is)
      (case l => k_is)
      (case c => k_is)
      (case k => k_is)
    have q__law_bent_row : Aim.Has (L2.KOf KX) mg "_law_bent_row" (Aim.top 34) := by
      refine' Aim.has_mk KX G ?a ?l ?c ?k
      (case a => k_is)
      (case l => k_is)
      (case c => k_is)
      (case k => k_is)
    have q__law_bent : Aim.Has (L2.KOf KX) mg "_law_bent" (Aim.top 35) := by
      refine' Aim.has_mk KX G ?a ?l ?c ?k
      (case a => k_is)
      (case l => k_is)
      (case c => k_is)
      (case k => k_is)
    have q__law_step : Aim.Has (L2.KOf KX) mg "_law_step" (Aim.top 36) := by
      refine' Aim.has_mk KX G ?a ?l ?c ?k
      (case a => k_is)
      (case l => k_is)
      (case c => k_is)
      (case k => k_is)
    have q__law_is_step : Aim.Has (L2.KOf KX) mg "_law_is_step" (Aim.top 37) := by
      refine' Aim.has_mk KX G ?a ?l ?c ?k
      (case a => k_is)
      (case l => k_is)
      (case c => k_is)
      (case k => k_is)
    have q__law_text : Aim.Has (L2.KOf KX) mg "_law_text" (Aim.top 38) := by
      refine' Aim.has_mk KX G ?a ?l ?c ?k
      (case a => k_is)
      (case l => k_is)
      (case c => k_is)
      (case k => k_is)
    have q__law_bent_text : Aim.Has (L2.KOf KX) mg "_law_bent_text" (Aim.top 41) := by
      refine' Aim.has_mk KX G ?a ?l ?c ?k
      (case a => k_is)
      (case l => k_is)
      (case c => k_is)
      (case k => k_is)
    have q__law_right : Aim.Has (L2.KOf KX) mg "_law_right" (Aim.top 43) := by
      refine' Aim.has_mk KX G ?a ?l ?c ?k
      (case a => k_is)
      (case l => k_is)
      (case c => k_is)
      (case k => k_is)
    have q_law : Aim.Has (L2.KOf KX) mg "law" (Aim.top 44) := by
      refine' Aim.has_mk KX G ?a ?l ?c ?k
      (case a => k_is)
      (case l => k_is)
      (case c => k_is)
      (case k => k_is)
    refine' Aim.fin KX G hmg tabs q_is_name q_has_step_form q_step_line q_read_step q_show_run q_check_text q_read_run q_lines_of q__law_pot q__law_take q__law_of q__law_cells q__law_letter q__law_word_of_lines q__law_name q__law_caught q__law_same q__law_is q__law_odd q__law_is_name q__law_bent_row q__law_bent q__law_step q__law_is_step q__law_text q__law_bent_text q__law_right q_law ?z_len ?z_int ?z_abs ?z_isinstance ?z_bool ?z_str ?z_list ?z_tuple ?z_range ?z_max ?z_min ?z_all ?z_any ?z_zip ?z_repr ?z_super ?z_sorted ?z_enumerate ?z_dict ?z_set ?z_bytes ?z_sum ?g_LETTERS ?g_MOST_LETTERS ?g_FEED ?g_BLANK ?g_PAIR ?g_BARE_STEPS ?l_BARE_STEPS ?g_NAMED_STEPS ?l_NAMED_STEPS ?rL0 ?aL0 ?lL0 ?coL0 ?kL0 ?lcL0 ?eL0 ?nL0 ?rL1 ?aL1 ?lL1 ?coL1 ?kL1 ?lcL1 ?eL1 ?nL1 ?rL2 ?aL2 ?lL2 ?coL2 ?kL2 ?lcL2 ?eL2 ?nL2 ?nd ?m_AE ?m_BadRun ?m_BadText ?iniCT ?lI ?cI ?lcI ?e1I ?e2I ?lccI ?hDI ?tII ?topI ?thI ?lc_BadRun ?bm_BadRun ?sa_BadRun ?ex_BadRun ?ty_BadRun ?kc_BadRun ?ga_BadRun ?gg_BadRun ?hd_BadRun ?sb_BadRun ?su_BadRun ?ve_BadRun ?nv_BadRun ?in_BadRun ?ow_BadRun ?ob_BadRun ?x_BadRun ?i_BadRun ?lc_BadText ?bm_BadText ?sa_BadText ?ex_BadText ?ty_BadText ?kc_BadText ?ga_BadText ?gg_BadText ?hd_BadText ?sb_BadText ?su_BadText ?ve_BadText ?nv_BadText ?in_BadText ?ow_BadText ?ob_BadText ?x_BadText ?i_BadText ?gtO ?tkO
    (case z_len => k_is)
    (case z_int => k_is)
    (case z_abs => k_is)
    (case z_isinstance => k_is)
    (case z_bool => k_is)
    (case z_str => k_is)
    (case z_list => k_is)
    (case z_tuple => k_is)
    (case z_range => k_is)
    (case z_max => k_is)
    (case z_min => k_is)
    (case z_all => k_is)
    (case z_any => k_is)
    (case z_zip => k_is)
    (case z_repr => k_is)
    (case z_super => k_is)
    (case z_sorted => k_is)
    (case z_enumerate => k_is)
    (case z_dict => k_is)
    (case z_set => k_is)
    (case z_bytes => k_is)
    (case z_sum => k_is)
    (case g_LETTERS => k_is)
    (case g_MOST_LETTERS => k_is)
    (case g_FEED => k_is)
    (case g_BLANK => k_is)
    (case g_PAIR => k_is)
    (case g_BARE_STEPS => k_is)
    (case l_BARE_STEPS => k_is)
    (case g_NAMED_STEPS => k_is)
    (case l_NAMED_STEPS => k_is)
    (case rL0 => rfl)
    (case aL0 => k_is)
    (case lL0 => k_is)
    (case coL0 => k_is)
    (case kL0 => k_is)
    (case lcL0 => k_is)
    (case eL0 => rfl)
    (case nL0 => kernel_rfl)
    (case rL1 => rfl)
    (case aL1 => k_is)
    (case lL1 => k_is)
    (case coL1 => k_is)
    (case kL1 => k_is)
    (case lcL1 => k_is)
    (case eL1 => rfl)
    (case nL1 => kernel_rfl)
    (case rL2 => rfl)
    (case aL2 => k_is)
    (case lL2 => k_is)
    (case coL2 => k_is)
    (case kL2 => k_is)
    (case lcL2 => k_is)
    (case eL2 => rfl)
    (case nL2 => kernel_rfl)
    (case nd => decide)
    (case m_AE => k_is)
    (case m_BadRun => k_is)
    (case m_BadText => k_is)
    (case iniCT => k_is)
    (case lI => k_is)
    (case cI => k_is)
    (case lcI => k_is)
    (case e1I => rfl)
    (case e2I => kernel_rfl)
    (case lccI => k_is)
    (case hDI => k_is)
    (case tII => k_is)
    (case topI => kernel_rfl)
    (case thI => k_is)
    (case lc_BadRun => k_is)
    (case bm_BadRun => kernel_rfl)
    (case sa_BadRun => k_is)
    (case ex_BadRun => k_is)
    (case ty_BadRun => k_is)
    (case kc_BadRun => k_is)
    (case ga_BadRun => k_is)
    (case gg_BadRun => k_is)
    (case hd_BadRun => k_is)
    (case sb_BadRun => k_is)
    (case su_BadRun => kernel_rfl)
    (case ve_BadRun => k_is)
    (case nv_BadRun => k_is)
    (case in_BadRun => k_is)
    (case ow_BadRun => k_is)
    (case ob_BadRun => k_is)
    (case x_BadRun => kernel_rfl)
    (case i_BadRun => kernel_rfl)
    (case lc_BadText => k_is)
    (case bm_BadText => kernel_rfl)
    (case sa_BadText => k_is)
    (case ex_BadText => k_is)
    (case ty_BadText => k_is)
    (case kc_BadText => k_is)
    (case ga_BadText => k_is)
    (case gg_BadText => k_is)
    (case hd_BadText => k_is)
    (case sb_BadText => k_is)
    (case su_BadText => kernel_rfl)
    (case ve_BadText => k_is)
    (case nv_BadText => k_is)
    (case in_BadText => k_is)
    (case ow_BadText => k_is)
    (case ob_BadText => k_is)
    (case x_BadText => kernel_rfl)
    (case i_BadText => kernel_rfl)
    (case gtO => k_is)
    (case tkO => k_is)
