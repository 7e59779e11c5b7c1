import PyProof.Rows.All
import Wide.All
import OpenK.AllK
import Wide.FinOn
import HandS.ForMost
import HandS.ForExc
import HandS.Wide
import HandS.IsInst
import HandS.Defaults
import HandS.MakeKwOnly
import HandS.Property
import HandS.Strs
import HandS.Flow
import HandS.Zip
import HandS.Lambda
import HandS.ExcSuper
import HandS.ExcInit
import HandS.ExcValue
import HandS.ExcField
import HandS.ExcIs
import KE.KExcSuper
import KE.KExcIs
import HandS.EndTab
import HandS.Conv
import HandS.Walk
import PyProof.NeKinds
import HandS.TupAny
import HandS.SetFor
import KE.KDictKeyed
import KE.KDictWalk
import HandS.Deep
import HandS.Text
import HandS.StrSplit
import HandS.More
import HandS.Style
import KE.GoesEnum
import HandS.Star
import HandS.Codes
import PyProof.InstNe
import KE.KOpsOwn
import OpenK.KOps
import KE.KDictPairs
import HandS.Dict
import HandS.MakeKw
import KE.KStrBytes
import HandS.Bytes
import HandS.WideBits
import PyProof.Rows.StrMeet
import HandS.BytesMake
import KE.KStateDown
import KE.KNestM
import HandS.Head0
import HandS.Head1
import HandS.Head2
import PySem.Challenge.RW_aimedpresses_k11_aims_and_bytes_refused
set_option Elab.async false
set_option linter.all false
set_option maxRecDepth 100000
set_option maxHeartbeats 4000000
namespace Aim
open PySem PySem.Spec PyProof.Rows L2
theorem us1 {α : Type} {us : List α} (hl : us.length = 1) : ∃ a, us = [a] := match us, hl with
  | [a], _ => ⟨a, rfl⟩
theorem us2 {α : Type} {us : List α} (hl : us.length = 2) : ∃ a b, us = [a, b] := by
  obtain ⟨a, t, rfl⟩ : ∃ a t, us = a :: t := by cases us with
    | nil => cases hl
    | cons a t => exact ⟨a, t, rfl⟩
  obtain ⟨b, rfl⟩ := us1 (Nat.succ.inj hl)
  exact ⟨a, b, rfl⟩
theorem us3 {α : Type} {us : List α} (hl : us.length = 3) : ∃ a b c, us = [a, b, c] := by
  obtain ⟨a, t, rfl⟩ : ∃ a t, us = a :: t := by cases us with
    | nil => cases hl
    | cons a t => exact ⟨a, t, rfl⟩
  obtain ⟨b, c, rfl⟩ := us2 (Nat.succ.inj hl)
  exact ⟨a, b, c, rfl⟩
theorem us4 {α : Type} {us : List α} (hl : us.length = 4) : ∃ a b c d, us = [a, b, c, d] := by
  obtain ⟨a, t, rfl⟩ : ∃ a t, us = a :: t := by cases us with
    | nil => cases hl
    | cons a t => exact ⟨a, t, rfl⟩
  obtain ⟨b, c, d, rfl⟩ := us3 (Nat.succ.inj hl)
  exact ⟨a, b, c, d, rfl⟩
theorem us5 {α : Type} {us : List α} (hl : us.length = 5) : ∃ a b c d e, us = [a, b, c, d, e] := by
  obtain ⟨a, t, rfl⟩ : ∃ a t, us = a :: t := by cases us with
    | nil => cases hl
    | cons a t => exact ⟨a, t, rfl⟩
  obtain ⟨b, c, d, e, rfl⟩ := us4 (Nat.succ.inj hl)
  exact ⟨a, b, c, d, e, rfl⟩
theorem us6 {α : Type} {us : List α} (hl : us.length = 6) : ∃ a b c d e f, us = [a, b, c, d, e, f] := by
  obtain ⟨a, t, rfl⟩ : ∃ a t, us = a :: t := by cases us with
    | nil => cases hl
    | cons a t => exact ⟨a, t, rfl⟩
  obtain ⟨b, c, d, e, f, rfl⟩ := us5 (Nat.succ.inj hl)
  exact ⟨a, b, c, d, e, f, rfl⟩
theorem ex8 {α β γ δ : Sort _} {P1 P2 P3 P4 : α → β → γ → δ → Prop} {C : Prop} (h : ∃ a b c d, P1 a b c d ∧ P2 a b c d ∧ P3 a b c d ∧ P4 a b c d) (g : ∀ a b c d, P1 a b c d → P2 a b c d → P3 a b c d → P4 a b c d → C) : C := by
  obtain ⟨a, b, c, d, h1, h2, h3, h4⟩ := h
  exact g a b c d h1 h2 h3 h4
theorem ex6 {α β γ : Sort _} {P1 P2 P3 : α → β → γ → Prop} {C : Prop} (h : ∃ a b c, P1 a b c ∧ P2 a b c ∧ P3 a b c) (g : ∀ a b c, P1 a b c → P2 a b c → P3 a b c → C) : C := by
  obtain ⟨a, b, c, h1, h2, h3⟩ := h
  exact g a b c h1 h2 h3
structure PotB (d m t : Int) (n : Nat) : Prop where
  d0 : 0 ≤ d
  m0 : -(2 ^ 62) < m
  m1 : m < 2 ^ 62
  t0 : 0 ≤ t
  t1 : t ≤ n
def PotO (n : Nat) (a : Addr) : HO := .ext fun h => ∃ (d m t : Int) (i0 i1 i2 : Tok) (k : Nat), h.get? a = some { cls := .type "list", data := .seq #[.int d i0, .int m i1, .int t i2] k } ∧ PotB d m t n
theorem PotO.ok {P : Program} {w : World} {H : Hp} {h : Heap} {a : Addr} {n k : Nat} {d m t : Int} {i0 i1 i2 : Tok} (e : h.get? a = some { cls := .type "list", data := .seq #[.int d i0, .int m i1, .int t i2] k }) (b : PotB d m t n) : ObjOk P w H h a (PotO n a) :=
  ⟨⟨d, m, t, i0, i1, i2, k, e, b⟩, ⟨_, e⟩, fun _ _ ⟨d, m, t, i0, i1, i2, k, q, b⟩ f => ⟨d, m, t, i0, i1, i2, k, f _ q, b⟩⟩
theorem PotO.at {P : Program} {w : World} {H : Hp} {h : Heap} {a : Addr} {n : Nat} (hok : HOk P w H h) (e : H a = some (PotO n a)) : ∃ (d m t : Int) (i0 i1 i2 : Tok) (k : Nat), h.get? a = some { cls := .type "list", data := .seq #[.int d i0, .int m i1, .int t i2] k } ∧ PotB d m t n := by
  obtain ⟨x, _, _⟩ := (show ObjOk P w H h a (PotO n a) from hok a _ e)
  exact x
theorem PotB.mono {d m t : Int} {n k : Nat} (b : PotB d m t n) (h : n ≤ k) : PotB d m t k := ⟨b.d0, b.m0, b.m1, b.t0, by have := b.t1; omega⟩
section
variable {X : Cx} {pins : List (Addr × Obj)} {σ : L2.St} {H : Hp} {s : Shared}
theorem retell {a : Addr} {o : HO} (I : Inv X pins σ H s) (mu : Mut (H a)) (there : ∃ u, s.heap.get? a = some u) (new : ObjOk X.prog X.w (upd H a o) s.heap a o) : Inv X pins σ (upd H a o) s :=
  I.write (t' := s.toks) (x := a) (e := a) (o := o) mu (.inl rfl) (fun _ _ _ q => q) there new
theorem upd_self {H : Hp} {a : Addr} {o : HO} (h : H a = some o) : upd H a o = H := by
  funext b
  by_cases e : b = a
  · rw [e, upd_same, h]
  · rw [upd_ne e]
def tPot (te : TE) : TE := fun σ H Q => te σ H fun x H1 => ∃ (p : Addr) (d m t : Int) (n : Nat), x = .ref p ∧ H1 p = some (.lst [.int d, .int m, .int t]) ∧ PotB d m t n ∧ Q (.ref p) (upd H1 p (PotO n p))
theorem pe_pot {e : Expr} {te : TE} (he : PE X e te) : PE X e (tPot te) := by
  refine ⟨fun pins s σ H Q I h => thn (he.run pins s σ H _ I h) fun u s1 hq90 => ?_⟩
  obtain ⟨x, H1, I1, r1, p, d, m, t, n, ex, hp, hb, q⟩ := hq90
  subst ex
  obtain ⟨_, its, k, rv, hg⟩ := (show ObjOk X.prog X.w H1 s1.heap p (.lst [.int d, .int m, .int t]) from I1.hok p _ hp)
  cases rv with
  | cons r0 rv =>
    cases rv with
    | cons r1' rv =>
      cases rv with
      | cons r2 rv =>
        cases rv
        obtain ⟨i0, rfl⟩ := r0
        obtain ⟨i1, rfl⟩ := r1'
        obtain ⟨i2, rfl⟩ := r2
        exact ⟨_, _, retell I1 (by rw [hp]; exact True.intro) ⟨_, hg⟩ (PotO.ok hg hb), r1, q⟩
def rIxP : R2 := fun x y H Q => ∃ (p : Addr) (n : Nat) (i : Int), x = .ref p ∧ y = .int i ∧ H p = some (PotO n p) ∧ ((i = 0 ∧ ∀ d : Int, 0 ≤ d → Q (.int d) H) ∨ (i = 1 ∧ ∀ m : Int, -(2 ^ 62) < m → m < 2 ^ 62 → Q (.int m) H) ∨ (i = 2 ∧ ∀ t : Int, 0 ≤ t → t ≤ n → Q (.int t) H))
theorem ix_pot : IxR X rIxP := by
  intro value slice pins s σ H x y v u Q I rx ry ⟨p, n, i, ex, ey, hp, q⟩ hs
  subst ex
  subst ey
  obtain ⟨d, m, t, i0, i1, i2, k, hg, b⟩ := PotO.at I.hok hp
  have I1 : Inv X pins σ (upd H p (.lst [.int d, .int m, .int t])) s :=
    retell I (by rw [hp]; exact True.intro) ⟨_, hg⟩ ⟨by show 3 ≤ sizeLine; decide, [.int d i0, .int m i1, .int t i2], k, .cons ⟨_, rfl⟩ (.cons ⟨_, rfl⟩ (.cons ⟨_, rfl⟩ .nil)), hg⟩
  have back : ∀ {s' : Shared} {z : V} {w : Value}, Inv X pins σ (upd H p (.lst [.int d, .int m, .int t])) s' → RelV z w → Q z H → EP X pins σ Q w s' := fun {s' z w} J rz q => by
    obtain ⟨_, its, k', rv, hg'⟩ := (show ObjOk X.prog X.w (upd H p (.lst [.int d, .int m, .int t])) s'.heap p (.lst [.int d, .int m, .int t]) from J.hok p _ upd_same)
    cases rv with
    | cons r0 rv =>
      cases rv with
      | cons r1' rv =>
        cases rv with
        | cons r2 rv =>
          cases rv
          obtain ⟨j0, rfl⟩ := r0
          obtain ⟨j1, rfl⟩ := r1'
          obtain ⟨j2, rfl⟩ := r2
          have J2 := retell (o := PotO n p) J (by rw [upd_same]; exact True.intro) ⟨_, hg'⟩ (PotO.ok hg' b)
          rw [upd_upd, upd_self hp] at J2
          exact ⟨z, H, J2, rz, q⟩
  have key : ∀ (z : V), atI [V.int d, V.int m, V.int t] i = some z → Q z H → wpAny (model X.prog X.w) X.A (subscriptTail value slice v u) (EP X pins σ Q) X.xe s := fun z hz q =>
    thn (ix_list value slice pins s σ _ (.ref p) (.int i) v u (fun y H' => y = z ∧ H' = upd H p (.lst [.int d, .int m, .int t])) I1 rx ry ⟨p, _, i, z, rfl, rfl, SqL.of upd_same, hz, rfl, rfl⟩ hs) fun w s' hq80 => by
      obtain ⟨y, H', J, rw', ey, eH⟩ := hq80
      subst ey
      subst eH
      exact back J rw' q
  rcases q with ⟨e, q⟩ | ⟨e, q⟩ | ⟨e, q⟩
  · subst e
    exact key (.int d) rfl (q d b.d0)
  · subst e
    exact key (.int m) rfl (q m b.m0 b.m1)
  · subst e
    exact key (.int t) rfl (q t b.t0 b.t1)
def rSetP : TSet := fun o i v H Q => ∃ (p : Addr) (n : Nat) (j z : Int), o = .ref p ∧ i = .int j ∧ v = .int z ∧ H p = some (PotO n p) ∧ ((j = 0 ∧ 0 ≤ z ∧ ∃ n' : Nat, n ≤ n' ∧ Q (upd H p (PotO n' p))) ∨ (j = 2 ∧ ∃ n' : Nat, n ≤ n' ∧ 0 ≤ z ∧ z ≤ n' ∧ Q (upd H p (PotO n' p))))
theorem set_pot : PSet X rSetP := by
  intro pins s σ H o i v ov iv u Q I ro ri rv ⟨p, n, j, z, eo, ei, ev, hp, q⟩
  subst eo
  subst ei
  subst ev
  obtain ⟨d, m, t, i0, i1, i2, k, hg, b⟩ := PotO.at I.hok hp
  have I1 : Inv X pins σ (upd H p (.lst [.int d, .int m, .int t])) s :=
    retell I (by rw [hp]; exact True.intro) ⟨_, hg⟩ ⟨by show 3 ≤ sizeLine; decide, [.int d i0, .int m i1, .int t i2], k, .cons ⟨_, rfl⟩ (.cons ⟨_, rfl⟩ (.cons ⟨_, rfl⟩ .nil)), hg⟩
  have back : ∀ {s' : Shared} {d m t : Int} {n' : Nat}, Inv X pins σ (upd (upd H p (.lst [.int d, .int m, .int t])) p (.lst [.int d, .int m, .int t])) s' → PotB d m t n' → Q (upd H p (PotO n' p)) → ∃ H', Inv X pins σ H' s' ∧ Q H' := fun {s' d m t n'} J b q => by
    rw [upd_upd] at J
    obtain ⟨_, its, k', rv, hg'⟩ := (show ObjOk X.prog X.w (upd H p (.lst [.int d, .int m, .int t])) s'.heap p (.lst [.int d, .int m, .int t]) from J.hok p _ upd_same)
    cases rv with
    | cons r0 rv =>
      cases rv with
      | cons r1' rv =>
        cases rv with
        | cons r2 rv =>
          cases rv
          obtain ⟨j0, rfl⟩ := r0
          obtain ⟨j1, rfl⟩ := r1'
          obtain ⟨j2, rfl⟩ := r2
          have J2 := retell (o := PotO n' p) J (by rw [upd_same]; exact True.intro) ⟨_, hg'⟩ (PotO.ok hg' b)
          rw [upd_upd] at J2
          exact ⟨_, J2, q⟩
  rcases q with ⟨e, z0, n', hn, q⟩ | ⟨e, n', hn, z0, z1, q⟩
  · subst e
    refine thn (set_list pins s σ _ (.ref p) (.int 0) (.int z) ov iv u (fun H' => H' = upd (upd H p (.lst [.int d, .int m, .int t])) p (.lst [.int z, .int m, .int t])) I1 ro ri rv ⟨p, _, 0, 0, rfl, rfl, upd_same, rfl, rfl⟩) fun _ s' hq9 => ?_
    obtain ⟨H', J, eH⟩ := hq9
    subst eH
    rw [upd_upd] at J
    refine back (s' := s') (d := z) (m := m) (t := t) (n' := n') (by rw [upd_upd]; exact J) ⟨z0, b.m0, b.m1, b.t0, (b.mono hn).t1⟩ q
  · subst e
    refine thn (set_list pins s σ _ (.ref p) (.int 2) (.int z) ov iv u (fun H' => H' = upd (upd H p (.lst [.int d, .int m, .int t])) p (.lst [.int d, .int m, .int z])) I1 ro ri rv ⟨p, _, 2, 2, rfl, rfl, upd_same, rfl, rfl⟩) fun _ s' hq9 => ?_
    obtain ⟨H', J, eH⟩ := hq9
    subst eH
    rw [upd_upd] at J
    exact back (s' := s') (d := d) (m := m) (t := z) (n' := n') (by rw [upd_upd]; exact J) ⟨b.d0, b.m0, b.m1, z0, z1⟩ q
theorem op_powW : OpR X (binaryOp .Pow) (rI (fun i j => 0 ≤ j ∧ (Builtin.Int.intBits i : Int) * j ≤ 2 ^ 27) fun i j => .int (i ^ j.toNat)) := opI fun _ _ _ _ _ _ _ hc q => pow_int hc.1 hc.2 q
end
end Aim
namespace Aim
open PySem PySem.Spec PyProof.Rows L2
theorem codeO_np {c : Addr} {q : Str} {n : Nat} : LamX.CodeO c q ≠ PotO n c := fun z => by
  unfold LamX.CodeO PotO at z
  injection z with z
  obtain ⟨h, hh⟩ : ∃ h : Heap, h.get? c = some { cls := .type "list", data := .seq #[.int 0 0, .int 0 0, .int 0 0] 0 } := ⟨⟨Array.replicate (c + 1) { cls := .type "list", data := .seq #[.int 0 0, .int 0 0, .int 0 0] 0 }, {}⟩, by simp [Heap.get?]⟩
  have y := congrFun z h
  have q : ∃ (oc : Obj) (vs : Array Value) (t : Tok), h.get? c = some oc ∧ oc.data = .fields vs ∧ vs[1]? = some (.str q t) := by
    rw [y]
    exact ⟨0, 0, 0, 0, 0, 0, 0, hh, ⟨by omega, by decide, by decide, by omega, by omega⟩⟩
  obtain ⟨oe, vs, t, e1, e2, _⟩ := q
  rw [hh] at e1
  cases e1
  cases e2
def Ext (T : List (Addr × Str)) (H H' : Hp) : Prop := (∀ b o, H b = some o → (∀ n, o ≠ PotO n b) → (∀ ps, o ≠ .tbl ps) → H' b = some o) ∧ (LamX.Tabs T H → LamX.Tabs T H')
theorem Ext.refl {T : List (Addr × Str)} (H : Hp) : Ext T H H := ⟨fun _ _ e _ _ => e, id⟩
theorem Ext.trans {T : List (Addr × Str)} {H H1 H2 : Hp} (a : Ext T H H1) (b : Ext T H1 H2) : Ext T H H2 := ⟨fun c o e n m => b.1 c o (a.1 c o e n m) n m, fun x => b.2 (a.2 x)⟩
theorem Ext.of {T : List (Addr × Str)} {H H' : Hp} (e : ∀ b o, H b = some o → H' b = some o) : Ext T H H' := ⟨fun b o h _ _ => e b o h, fun t => t.ext e⟩
theorem Ext.new {T : List (Addr × Str)} {H : Hp} {p : Addr} {o : HO} (h : H p = none) : Ext T H (upd H p o) := .of fun b u e => by
  rw [upd_ne (ne_of_none e h)]
  exact e
theorem Ext.pot {T : List (Addr × Str)} {H : Hp} {p : Addr} {n m : Nat} (h : H p = some (PotO n p)) : Ext T H (upd H p (PotO m p)) := by
  have k : ∀ b u, H b = some u → (∀ n, u ≠ PotO n b) → upd H p (PotO m p) b = some u := fun b u e k => by
    by_cases hb : b = p
    · subst hb
      rw [h] at e
      exact absurd (Option.some.inj e).symm (k n)
    · rw [upd_ne hb]
      exact e
  refine ⟨fun b u e q _ => k b u e q, fun t x hx => ?_⟩
  obtain ⟨ps, h1, h2, h3⟩ := t x hx
  refine ⟨ps, k _ _ h1 (fun n z => by unfold PotO at z; cases z), h2, fun pos cv hc => ?_⟩
  obtain ⟨c, e1, e2⟩ := h3 pos cv hc
  exact ⟨c, e1, k _ _ e2 fun n => codeO_np⟩
theorem lst_np {xs : List V} {n : Nat} {a : Addr} : HO.lst xs ≠ PotO n a := fun z => by
  unfold PotO at z
  cases z
theorem tup_np {xs : List V} {n : Nat} {a : Addr} : HO.tup xs ≠ PotO n a := fun z => by
  unfold PotO at z
  cases z
theorem frz_np {o : Obj} {u : HO} {n : Nat} {a : Addr} : HO.frz o u ≠ PotO n a := fun z => by
  unfold PotO at z
  cases z
theorem dK_np {k : List (Key × V)} {n : Nat} {a : Addr} : HO.dK k ≠ PotO n a := fun z => by
  unfold PotO at z
  cases z
theorem ins_np {C dx : Addr} {fs : List (Str × V)} {n : Nat} {a : Addr} : HO.ins C dx fs ≠ PotO n a := fun z => by
  unfold PotO at z
  cases z
theorem xd_np {fs : List (Str × V)} {n : Nat} {a : Addr} : HO.xd fs ≠ PotO n a := fun z => by
  unfold PotO at z
  cases z
section
variable {K : PySem.W.Frag} {T : List (Addr × Str)} {H H' : Hp}
theorem Ext.lst {a : Addr} {xs : List V} (e : Ext T H H') (h : H a = some (.lst xs)) : H' a = some (.lst xs) := e.1 a _ h (fun _ => lst_np) fun _ z => nomatch z
theorem Ext.tup {a : Addr} {xs : List V} (e : Ext T H H') (h : H a = some (.tup xs)) : H' a = some (.tup xs) := e.1 a _ h (fun _ => tup_np) fun _ z => nomatch z
theorem Ext.dK {a : Addr} {xs : List (Key × V)} (e : Ext T H H') (h : H a = some (.dK xs)) : H' a = some (.dK xs) := e.1 a _ h (fun _ => dK_np) fun _ z => nomatch z
theorem Ext.ins {a C dx : Addr} {fs : List (Str × V)} (e : Ext T H H') (h : H a = some (.ins C dx fs)) : H' a = some (.ins C dx fs) := e.1 a _ h (fun _ => ins_np) fun _ z => nomatch z
theorem Ext.frz {a : Addr} {o : Obj} {u : HO} (e : Ext T H H') (h : H a = some (.frz o u)) : H' a = some (.frz o u) := e.1 a _ h (fun _ => frz_np) fun _ z => nomatch z
theorem Ext.xd {a : Addr} {fs : List (Str × V)} (e : Ext T H H') (h : H a = some (.xd fs)) : H' a = some (.xd fs) := e.1 a _ h (fun _ => xd_np) fun _ z => nomatch z
theorem Ext.sqL {a : Addr} {xs : List V} (e : Ext T H H') (h : SqL K H a xs) : SqL K H' a xs := by
  rcases h with (h | ⟨o, h⟩) | h
  · exact .inl (.inl (e.lst h))
  · exact .inl (.inr ⟨o, e.frz h⟩)
  · exact .inr h
theorem Ext.sqT {a : Addr} {xs : List V} (e : Ext T H H') (h : SqT K H a xs) : SqT K H' a xs := by
  rcases h with (h | ⟨o, h⟩) | h
  · exact .inl (.inl (e.tup h))
  · exact .inl (.inr ⟨o, e.frz h⟩)
  · exact .inr h
end
def keyD : Key → PyData
  | .inl i => .int i
  | .inr x => .str x
mutual
inductive DD (K : PySem.W.Frag) (H : Hp) : V → PyData → Prop
  | non : DD K H .non .none
  | bl (b : Bool) : DD K H (.bl b) (.bool b)
  | int (i : Int) : DD K H (.int i) (.int i)
  | str (x : Str) : DD K H (.str x) (.str x)
  | lst {a : Addr} {xs : List V} {ds : List PyData} : SqL K H a xs → DDs K H xs ds → DD K H (.ref a) (.list ds)
  | tup {a : Addr} {xs : List V} {ds : List PyData} : SqT K H a xs → DDs K H xs ds → DD K H (.ref a) (.tuple ds)
  | dct {a : Addr} {kvs : List (Key × V)} {ps : List (PyData × PyData)} : H a = some (.dK kvs) → ps.map (·.1) = kvs.map (fun kv => keyD kv.1) → DDs K H (kvs.map (·.2)) (ps.map (·.2)) → DD K H (.ref a) (.dict ps)
inductive DDs (K : PySem.W.Frag) (H : Hp) : List V → List PyData → Prop
  | nil : DDs K H [] []
  | cons {v : V} {vs : List V} {d : PyData} {ds : List PyData} : DD K H v d → DDs K H vs ds → DDs K H (v :: vs) (d :: ds)
end
section
variable {K : PySem.W.Frag} {T : List (Addr × Str)} {H H' : Hp}
mutual
theorem DD.mono (e : Ext T H H') : ∀ {v : V} {d : PyData}, DD K H v d → DD K H' v d
  | _, _, .non => .non
  | _, _, .bl b => .bl b
  | _, _, .int i => .int i
  | _, _, .str x => .str x
  | _, _, .lst hs ha => .lst (e.sqL hs) (DDs.mono e ha)
  | _, _, .tup hs ha => .tup (e.sqT hs) (DDs.mono e ha)
  | _, _, .dct hs hk ha => .dct (e.dK hs) hk (DDs.mono e ha)
theorem DDs.mono (e : Ext T H H') : ∀ {vs : List V} {ds : List PyData}, DDs K H vs ds → DDs K H' vs ds
  | _, _, .nil => .nil
  | _, _, .cons h r => .cons (DD.mono e h) (DDs.mono e r)
end
theorem DDs.length : ∀ {vs : List V} {ds : List PyData}, DDs K H vs ds → vs.length = ds.length
  | _, _, .nil => rfl
  | _, _, .cons _ r => congrArg (· + 1) (DDs.length r)
theorem DDs.get : ∀ {vs : List V} {ds : List PyData} {i : Nat} {v : V}, DDs K H vs ds → vs[i]? = some v → ∃ d, ds[i]? = some d ∧ DD K H v d
  | _, _, _, _, .nil, e => by simp at e
  | _, _, 0, _, .cons h _, e => by
    simp at e
    subst e
    exact ⟨_, rfl, h⟩
  | _, _, i + 1, _, .cons _ r, e => by
    obtain ⟨d, e1, e2⟩ := DDs.get (i := i) r (by simpa using e)
    exact ⟨d, by simpa using e1, e2⟩
theorem DDs.getD : ∀ {vs : List V} {ds : List PyData} {i : Nat} {d : PyData}, DDs K H vs ds → ds[i]? = some d → ∃ v, vs[i]? = some v ∧ DD K H v d
  | _, _, _, _, .nil, e => by simp at e
  | _, _, 0, _, .cons h _, e => by
    simp at e
    subst e
    exact ⟨_, rfl, h⟩
  | _, _, i + 1, _, .cons _ r, e => by
    obtain ⟨d, e1, e2⟩ := DDs.getD (i := i) r (by simpa using e)
    exact ⟨d, by simpa using e1, e2⟩
theorem DDs.append : ∀ {vs us : List V} {ds es : List PyData}, DDs K H vs ds → DDs K H us es → DDs K H (vs ++ us) (ds ++ es)
  | _, _, _, _, .nil, s => s
  | _, _, _, _, .cons h r, s => .cons h (DDs.append r s)
theorem DDs.take : ∀ {vs : List V} {ds : List PyData} (n : Nat), DDs K H vs ds → DDs K H (vs.take n) (ds.take n)
  | _, _, 0, _ => by simp; exact .nil
  | _, _, _ + 1, .nil => by simp; exact .nil
  | _, _, n + 1, .cons h r => .cons h (DDs.take n r)
theorem DDs.drop : ∀ {vs : List V} {ds : List PyData} (n : Nat), DDs K H vs ds → DDs K H (vs.drop n) (ds.drop n)
  | _, _, 0, r => r
  | _, _, _ + 1, .nil => .nil
  | _, _, n + 1, .cons _ r => DDs.drop n r
theorem DDs.reverse : ∀ {vs : List V} {ds : List PyData}, DDs K H vs ds → DDs K H vs.reverse ds.reverse
  | _, _, .nil => .nil
  | _, _, .cons h r => by
    rw [List.reverse_cons, List.reverse_cons]
    exact DDs.append (DDs.reverse r) (.cons h .nil)
end
mutual
def noList : PyData → Bool
  | .none | .bool _ | .int _ | .str _ => true
  | .list _ => false
  | .tuple xs => noLists xs
  | .dict kvs => noListK kvs
def noLists : List PyData → Bool
  | [] => true
  | x :: xs => noList x && noLists xs
def noListK : List (PyData × PyData) → Bool
  | [] => true
  | (_, v) :: r => noList v && noListK r
end
theorem noListK_map : ∀ (ps : List (PyData × PyData)), noListK ps = noLists (ps.map (·.2))
  | [] => rfl
  | (k, v) :: r => by
    show (noList v && noListK r) = (noList v && noLists (r.map (·.2)))
    rw [noListK_map r]
theorem keysRead {P : Program} {w : World} {h : Heap} : ∀ {es : List DictEntry} {kvs : List (Key × Value)}, Pairs (mixKind P w) es kvs → ReadsAll h (es.map (·.key)) (kvs.map fun kv => keyD kv.1) []
  | _, _, .nil => .nil
  | _, _, .cons (e := e) (kv := kv) h1 _ r => by
    have q := keysRead (h := h) r
    have h1 : keyIs kv.1 e.key = true := h1
    have z : Reads h e.key (keyD kv.1) [] := by
      obtain ⟨k, u⟩ := kv
      rcases keyIs_shape h1 with ⟨i, t, e1, e2⟩ | ⟨x, t, e1, e2⟩
      · dsimp only at e1
        subst e1
        rw [e2]
        exact .int i t
      · dsimp only at e1
        subst e1
        rw [e2]
        exact .str x t
    exact ReadsAll.cons z q
theorem valsPaired {P : Program} {w : World} : ∀ {es : List DictEntry} {kvs : List (Key × Value)}, Pairs (mixKind P w) es kvs → es.map (·.val) = kvs.map (·.2)
  | _, _, .nil => rfl
  | _, _, .cons _ h2 r => by
    rw [List.map_cons, List.map_cons, h2, valsPaired r]
theorem kv_keys : ∀ {kvs : List (Key × V)} {vs : List (Key × Value)}, KV kvs vs → kvs.map (fun kv => keyD kv.1) = vs.map (fun kv => keyD kv.1) ∧ Vals (kvs.map (·.2)) (vs.map (·.2))
  | _, _, .nil => ⟨rfl, .nil⟩
  | _, _, .cons h r => by
    obtain ⟨e1, e2⟩ := kv_keys r
    refine ⟨?_, .cons h.2 e2⟩
    rw [List.map_cons, List.map_cons, h.1, e1]
section
variable {X : Cx} {pins : List (Addr × Obj)} {σ : L2.St} {H : Hp} {s : Shared}
mutual
theorem DD.reads (I : Inv X pins σ H s) : ∀ {v : V} {d : PyData} {u : Value}, DD X.K H v d → RelV v u → ∃ as, Reads s.heap u d as ∧ (noList d = true → sysModules ∉ as)
  | _, _, _, .non, r => by
    cases r
    exact ⟨_, Reads.none, fun _ h => nomatch h⟩
  | _, _, _, .bl b, r => by
    cases r
    exact ⟨_, Reads.bool b, fun _ h => nomatch h⟩
  | _, _, _, .int i, r => by
    obtain ⟨t, rfl⟩ := r
    exact ⟨_, Reads.int i t, fun _ h => nomatch h⟩
  | _, _, _, .str x, r => by
    obtain ⟨t, rfl⟩ := r
    exact ⟨_, Reads.str x t, fun _ h => nomatch h⟩
  | _, _, _, .lst hs ha, r => by
    cases r
    obtain ⟨its, rv, ⟨o, n, ho, hc, _, hd⟩, _⟩ := I.list hs
    obtain ⟨as, hr, _⟩ := DDs.reads I ha rv
    exact ⟨_, Reads.list ho hc hd hr, fun z => by simp [noList] at z⟩
  | _, _, _, .tup hs ha, r => by
    cases r
    obtain ⟨its, rv, ⟨o, ho, hc, n, hd⟩, _⟩ := I.tuple hs
    obtain ⟨as, hr, hn⟩ := DDs.reads I ha rv
    exact ⟨_, Reads.tuple ho hc hd hr, fun z => hn (by simpa [noList] using z)⟩
  | _, _, _, .dct (a := a) (kvs := kvs) (ps := ps) hs hk ha, r => by
    cases r
    obtain ⟨_, hS, vs, rk, o, es, ep, ho, hx, hd, _, hp, _⟩ := (show ObjOk X.prog X.w H s.heap a (.dK kvs) from I.hok a _ hs)
    obtain ⟨e1, e2⟩ := kv_keys rk
    have k1 : ReadsAll s.heap (es.toList.map (·.key)) (ps.map (·.1)) [] := by
      rw [hk, e1]
      exact keysRead hp
    obtain ⟨as, hr, hn⟩ := DDs.reads I ha e2
    have k2 : ReadsAll s.heap (es.toList.map (·.val)) (ps.map (·.2)) as := by
      rw [valsPaired hp]
      exact hr
    refine ⟨_, Reads.dict ho hx.1 hd k1 k2, fun z => ?_⟩
    have z2 : noLists (ps.map (·.2)) = true := by
      rw [← noListK_map]
      simpa [noList] using z
    intro hm
    rcases List.mem_cons.mp hm with q | q
    · rw [← q] at hS
      exact absurd hS (by decide)
    · exact hn z2 q
theorem DDs.reads (I : Inv X pins σ H s) : ∀ {vs : List V} {ds : List PyData} {us : List Value}, DDs X.K H vs ds → Vals vs us → ∃ as, ReadsAll s.heap us ds as ∧ (noLists ds = true → sysModules ∉ as)
  | _, _, _, .nil, r => by
    cases r
    exact ⟨_, ReadsAll.nil, fun _ h => nomatch h⟩
  | _, _, _, .cons h1 h2, r => by
    cases r with
    | cons r1 r2 =>
      obtain ⟨as, q1, n1⟩ := DD.reads I h1 r1
      obtain ⟨bs, q2, n2⟩ := DDs.reads I h2 r2
      refine ⟨_, ReadsAll.cons q1 q2, fun z => ?_⟩
      have z2 := Bool.and_eq_true_iff.mp (by simpa only [noLists] using z)
      intro hm
      rcases List.mem_append.mp hm with q | q
      · exact n1 z2.1 q
      · exact n2 z2.2 q
end
def rEqDD (K : PySem.W.Frag) : R2 := fun x y H Q => ∃ d e, DD K H x d ∧ DD K H y e ∧ SeqAt.shaped d = true ∧ SeqAt.shaped e = true ∧ Q (.bl (PyData.eqv d e)) H
def rNeDD (K : PySem.W.Frag) : R2 := fun x y H Q => ∃ d e, DD K H x d ∧ DD K H y e ∧ SeqAt.shaped d = true ∧ SeqAt.shaped e = true ∧ Q (.bl (!PyData.eqv d e)) H
theorem op_eqDD (hu : X.A.units + 64 < cLine) : OpR X (compareOp .Eq) (rEqDD X.K) := by
  intro pins s σ H x y v u Q I rx ry ⟨d, e, hd, he, sd, se, q⟩
  obtain ⟨as, r1, _⟩ := DD.reads I hd rx
  obtain ⟨bs, r2, _⟩ := DD.reads I he ry
  exact SeqAt.compareEq_shaped r1 r2 sd se hu ⟨.bl _, H, I, rfl, q⟩
theorem op_neDD (hu : X.A.units + 64 < cLine) : OpR X (compareOp .NotEq) (rNeDD X.K) := by
  intro pins s σ H x y v u Q I rx ry ⟨d, e, hd, he, sd, se, q⟩
  obtain ⟨as, r1, _⟩ := DD.reads I hd rx
  obtain ⟨bs, r2, _⟩ := DD.reads I he ry
  exact SeqAt.compareNe_shaped r1 r2 sd se hu ⟨.bl _, H, I, rfl, q⟩
end
def tyD : PyData → String
  | .none => "NoneType"
  | .bool _ => "bool"
  | .int _ => "int"
  | .str _ => "str"
  | .list _ => "list"
  | .tuple _ => "tuple"
  | .dict _ => "dict"
theorem tyX_sqL {K : PySem.W.Frag} {H : Hp} {a : Addr} {xs : List V} (h : SqL K H a xs) : TyX K H (.ref a) (.type "list") := by
  rcases h with (h | ⟨o, h⟩) | ⟨o, _, _, h, hc, _⟩
  · exact .base (.lst h)
  · exact .base (.frz h)
  · exact .kList h hc
theorem tyX_sqT {K : PySem.W.Frag} {H : Hp} {a : Addr} {xs : List V} (h : SqT K H a xs) : TyX K H (.ref a) (.type "tuple") := by
  rcases h with (h | ⟨o, h⟩) | ⟨o, _, _, h, hc, _⟩
  · exact .base (.tup h)
  · exact .fTuple h
  · exact .kTuple h hc
theorem DD.ty {K : PySem.W.Frag} {H : Hp} {v : V} {d : PyData} (h : DD K H v d) : TyX K H v (.type (tyD d)) := by
  cases h with
  | non => exact .base .non
  | bl b => exact .base (.bl b)
  | int i => exact .base (.int i)
  | str x => exact .base (.str x)
  | lst h1 _ => exact tyX_sqL h1
  | tup h1 _ => exact tyX_sqT h1
  | dct h1 _ _ => exact .base (.dK h1)
def isD (T : String) : PyData → Bool
  | .none => false
  | .bool _ => T == "bool" || T == "int"
  | .int _ => T == "int"
  | .str _ => T == "str"
  | .list _ => T == "list"
  | .tuple _ => T == "tuple"
  | .dict _ => T == "dict"
end Aim
namespace Aim
open PySem PySem.Spec PyProof.Rows L2
open PySem.W (KxsAt kxs_mw)
structure IsInit (st : Stmt) : Prop where
  body : ∃ (p1 p2 p3 p4 p5 p6 p7 p8 p9 p10 : Pos) (m : Str) (jj : Nat), defBody st = [.Expr (.Call (.Attribute (.Call (.Name "super" p1) [] [] p2) "__init__" p3) [.Constant (.str m) jj p4] [] p5) p6, .Assign [.Attribute (.Name "self" p7) "value" p8] (.Name "value" p9) p10] ∧
    ∀ env : Env, ∃ pl : Sem Bool, eval (.Call (.Attribute (.Call (.Name "super" p1) [] [] p2) "__init__" p3) [.Constant (.str m) jj p4] [] p5) env = (do
      let ov ← attributeBase (.Call (.Name "super" p1) [] [] p2) "__init__" env (eval (.Call (.Name "super" p1) [] [] p2) env)
      standAt p3.atName
      let (g, first) ← holding [ov] (getMethod ov "__init__" pl)
      callWith p5 g first (backTo p5 (starEach [.Constant (.str m) jj p4] env)) [])
  sc : defScope st = { kind := .function, names := [("self", .local), ("value", .local), ("__class__", .free), ("super", .globalImplicit)], isGenerator := false, isCoroutine := false }
  ps : ∃ (a b : Option Expr) (p1 p2 : Pos), defArgs st = { posonlyargs := [], args := [{ arg := "self", annotation := a, pos := p1 }, { arg := "value", annotation := b, pos := p2 }], vararg := none, kwonlyargs := [], kw_defaults := [], kwarg := none, defaults := [] }
structure AimI (P : Program) (K : PySem.W.Frag) (st : Stmt) (f D : Addr) : Prop where
  txt : IsInit st
  fn : ∃ (oc : Value) (od an : Option Addr) (osl : Array (Option Value)) (kV doc pm ct : Value) (cc cda : Addr) (ccl cl : Value) (cdd cld : Option Addr) (ccs csl : Array (Option Value)) (vs : Array Value) (file : Str) (tf : Tok) (cdD : ClassData),
    K.lookup f = some ⟨oc, od, .func (PySem.W.fnX "__init__" "AimError.__init__" (defArgs st) (defBody st) (defScope st) [("__class__", cc)] .none kV doc pm an (.ref cda) ct), osl⟩ ∧ PySem.W.codeIn K (.ref cda) "AimError.__init__" = true ∧
    K.lookup cda = some ⟨ccl, cdd, .fields vs, ccs⟩ ∧ vs[2]? = some (.str file tf) ∧ ((P.main.file : Str) == file) = true ∧ K.lookup cc = some ⟨cl, cld, .cell (some (.ref D)), csl⟩ ∧ PySem.W.clsIn K D = some cdD
  tI : PySem.W.typeIn K (.ref f) = some (.type "function")
  top : (P.main.scope.names.lookup ("super" : Str)).isSome = false
  third : PySem.W.nsIn K cStatics "thirdparty.any" = some none
structure AimC (K : PySem.W.Frag) (f D C : Addr) : Prop extends OexC K C, XfC K C where
  sub : PySem.W.mroIn K C (.ref D) = some true
  sup : PySem.W.ks_superIn K C D "__init__" = some (some (.builtin "ValueError.__init__"))
  ve : PySem.W.subIn K (.ref C) (.type "ValueError") = some true
  nv : PySem.W.findIn K (.ref C) "value" = some none
  ini : PySem.W.findIn K (.ref C) "__init__" = some (some (.ref f))
  own : PySem.W.findIn K (.ref C) "__class__" = some (some (.builtin "object.__class__"))
  get : PySem.W.specialIn K (.builtin "object.__class__") "__get__" = some (some (.builtin "getset_descriptor.__get__"))
  tak : PySem.W.takesIn K (.builtin "object.__class__") = some true
  obj : PySem.W.mroIn K C (.type "object") = some true
section
variable {P : Program} {w : World} {K : PySem.W.Frag} {mg : Str → Option Value} {base : Heap} {A : Around} {E : Value → Shared → Prop} {R : Result → Shared → Prop} {s : Shared} {f e C D t0 : Addr} {u : Value} {st : Stmt}
theorem call_mw {q : Addr} {rest : List Value} {Q : Value → Shared → Prop} (hC : ∃ nm qn N bs bm sn sub ab col dd k0 k1 k2 k3 k5, s.heap.get? C = some (excClassObj nm qn C N bs bm true sn sub ab col dd k0 k1 k2 k3 k5 "ValueError.__new__"))
    (he : s.heap.get? e = some (HandSPX.excO C t0)) (hq : s.heap.get? q = some (kxs_mw "ValueError.__init__" e)) (hz : rest.length ≤ sizeLine)
    (h : ∀ h', (∀ b o, b ≠ e → s.heap.get? b = some o → h'.get? b = some o) → h'.get? e = some (HandSPX.excO C s.heap.objs.size) → Q .none { s with heap := h' }) : wpAny (model P w) A (call (.ref q) rest) Q E s := by
  obtain ⟨nm, qn, N, bs, bm, sn, sub, ab, col, dd, k0, k1, k2, k3, k5, hC⟩ := hC
  obtain ⟨hh, g, d, tk, os⟩ := s
  refine wpAny_call (codeAny_of_tree ?_)
  show wpAny _ A.in1 (callAny (.ref q) ⟨rest, []⟩) _ _ _
  simp only [callAny]
  refine wpAny_bind (wpAny_load hq ?_)
  simp only [kxs_mw, show (Value.type "method-wrapper" == Value.type "method" || Value.type "method-wrapper" == Value.type "builtin_function_or_method" || Value.type "method-wrapper" == Value.type "method-wrapper") = true by decide, if_true]
  refine PySem.W.KFB.if_so (by decide) (wpAny_bind (PySem.W.check_bound_init F.excBase_ValueError.toExcCallFacts hC he rfl (wpAny_bind (wpAny_pure (wpAny_pure ?_)))))
  refine ⟨plainId_quiet F.excBase_ValueError.init.plain _, codeAny_builtin F.excBase_ValueError.initEntry ?_⟩
  exact PySem.W.exc_init_tree (cls := .ref C) (t0 := t0) (dv := none) (c2 := .none) (c3 := .none) (b4 := .bool false) he hz fun h' k e' _ => h h' k e'
theorem aim_init (M : Mod K mg base) (hbk : ∀ b o, base.get? b = some o → s.heap.get? b = some o) (Z : AimI P K st f D) (c : AimC K f D C) (hsup : mg "super" = none) (hdep : A.depth < recursionLimit) (he : s.heap.get? e = some (HandSPX.excO C t0)) (hbe : base.get? e = none)
    (hR : ∀ h' dx t1 tk, (∀ b o, b ≠ e → s.heap.get? b = some o → h'.get? b = some o) → s.heap.objs.size ≤ dx → dx ≠ e → h'.get? e = some ({ cls := .ref C, dict := some dx, data := .fields #[.ref t1, .none, .none, .none, .bool false, .none] } : Obj) →
      h'.Ns1 dx (fun y => if y = "value" then some u else none) → R (.ok (.ret .none)) ⟨h', s.gens, s.drawn, tk, s.os⟩) : codeAny (model P w) A (.call (.ref f) ⟨[.ref e, u], []⟩) R s := by
  obtain ⟨⟨⟨p1, p2, p3, p4, p5, p6, p7, p8, p9, p10, m, jj, hbody, hev⟩, hsc, ⟨a0, b0, q1, q2, hps⟩⟩, ⟨oc, od, an, osl, kV, doc, pm, ct, cc, cda, ccl, cl, cdd, cld, ccs, csl, vs, file, tf, cdD, lf, hcd, lcd, hvs, hfile, lcc, hD⟩, tI, htop, hthird⟩ := Z
  have X : K.In s.heap := M.kin.keeps hbk
  have lim : s.heap.NoLimit := M.nolimit.keeps hbk
  rw [hbody, hsc, hps] at lf
  obtain ⟨nm, qn, NN, bs, bm, sn, sub, ab, col, dd, k0, k1, k2, k3, k5, lC, hbm⟩ := c.cls
  have hcl : PySem.W.clsIn K C = some { name := nm, bases := bs, mro := .ref C :: bm, ns := NN, qualname := qn, hasDict := true, slotNames := sn, subclasses := sub, abstract := ab, collection := col, hasDel := false } := by unfold PySem.W.clsIn; rw [lC] <;> rfl
  have hloc : ∀ x ∈ [(("self" : Str), Value.ref e), (("value" : Str), u)], List.lookup x.1 [(("self" : Str), NameKind.local), ("value", .local), ("__class__", .free), ("super", .globalImplicit)] = some .local := by
    intro x hx
    rcases List.mem_cons.mp hx with z | hx
    · subst z
      rfl
    · rcases List.mem_cons.mp hx with z | hx
      · subst z
        rfl
      · cases hx
  have hcell : ∀ x ∈ [(("self" : Str), NameKind.local), (("value" : Str), NameKind.local), (("__class__" : Str), NameKind.free), (("super" : Str), NameKind.globalImplicit)], x.2 ≠ .cell := by decide
  refine ks_codeAny_call_defAt (binds := [("self", .ref e), ("value", u)]) hdep (X _ _ lf) rfl lim (PySem.W.codeRec_of X hcd) rfl (.of_eq rfl) (fun x hx => hcell x hx) hloc (fun h0 hns hk0 => ?_)
  have X0 : K.In h0 := X.keeps hk0
  have hb0 : ∀ b o, base.get? b = some o → h0.get? b = some o := fun b o q => hk0 b o (hbk b o q)
  have he0 := hk0 _ _ he
  obtain ⟨oD, hD1, hD2⟩ : ∃ oD, h0.get? D = some oD ∧ oD.data = .cls cdD := by
    unfold PySem.W.clsIn at hD
    split at hD
    · rename_i cx dx cd' sl ho
      cases hD
      exact ⟨_, X0 _ _ ho, rfl⟩
    · cases hD
  obtain ⟨pl, hev⟩ := hev (callEnv (PySem.W.fnX "__init__" "AimError.__init__" { posonlyargs := [], args := [{ arg := "self", annotation := a0, pos := q1 }, { arg := "value", annotation := b0, pos := q2 }], vararg := none, kwonlyargs := [], kw_defaults := [], kwarg := none, defaults := [] }
    [.Expr (.Call (.Attribute (.Call (.Name "super" p1) [] [] p2) "__init__" p3) [.Constant (.str m) jj p4] [] p5) p6, .Assign [.Attribute (.Name "self" p7) "value" p8] (.Name "value" p9) p10]
    { kind := .function, names := [("self", .local), ("value", .local), ("__class__", .free), ("super", .globalImplicit)], isGenerator := false, isCoroutine := false } [("__class__", cc)] .none kV doc pm an (.ref cda) ct) s.heap.objs.size f)
  refine ks_wpAt_execs_cons (ks_wpAt_Expr_any (ks_wpAt_MethodCall (ks_wpAt_super_base rfl rfl rfl rfl (X0 _ _ lf) rfl rfl rfl (X0 _ _ lcd) rfl hvs hfile htop ?_) hev))
  obtain ⟨mb, hmb, hbb⟩ := M.blt
  refine PySem.W.ks_loadName_global rfl rfl (Calls.loadGlobal_builtin (M.glob.keeps hb0) hsup (hmb.keeps hb0) ((hbb "super" (by decide)).trans (by rfl)) ⟨rfl, ?_⟩)
  refine wpAny_loadName_free rfl rfl rfl ⟨_, X0 _ _ lcc, rfl⟩ ?_
  refine wpAny_loadName_local rfl rfl hns rfl ?_
  refine ks_wpAny_isType_cls hD1 hD2 ⟨rfl, ?_⟩
  refine ks_wpAny_call_super hD1 hD2 he0 rfl (fun _ z => by cases z) (PySem.W.looks_mroIn X0 c.sub) (fun h1 hso hk1 => ?_)
  have X1 := X0.keeps hk1
  have he1 := hk1 _ _ he0
  have LI : PySem.W.Looks (model P w) h1 (isInstance (.ref e) (.type "ValueError")) true := by
    have I : PySem.W.InstAt h1 e (HandSPX.excO C t0) C none := ⟨he1, rfl, rfl, trivial⟩
    exact I.type.andThen (PySem.W.looks_subIn X1 c.ve)
  have hne : e ≠ C := by
    intro z
    have y := X1 _ _ lC
    rw [← z, he1] at y
    cases y
  have hsup2 : PySem.W.alongIn K "__init__" (((Value.ref C :: bm).dropWhile (· != .ref D)).drop 1) = some (some (.builtin "ValueError.__init__")) := by
    have y := c.sup
    unfold PySem.W.ks_superIn at y
    rw [hcl] at y
    exact y
  refine PySem.W.kxs_getMethod PySem.W.kxs_ValueError hso (PySem.W.looks_opaque X1 hthird) (l₀ := Value.ref C :: bm) (fun A Q E s k q => wpAny_bind ((PySem.W.looks_clsIn X1 hcl) A _ E s k (wpAny_pure q))) rfl X1 hsup2 LI hne (by decide) ?_
  refine PySem.W.kxs_callWith (i := "ValueError.__init__") (x := e) rfl ?_
  refine Calls.evalArgs_plain ?_
  refine Calls.spliced_cons ?_
  refine Calls.Constant_str (x := m) (k := jj) (pos := p4) ?_
  refine Calls.spliced_nil ?_
  refine ⟨Heap.get?_push_at rfl rfl, ?_⟩
  have X2 : K.In (h1.push (kxs_mw "ValueError.__init__" e)) := X1.keeps fun b o q => Heap.get?_push_of_some _ q
  refine call_mw ⟨_, _, _, _, _, _, _, _, _, _, _, _, _, _, _, X2 _ _ lC⟩ (Heap.get?_push_of_some _ he1) (Heap.get?_push_at rfl rfl) (by show 1 ≤ sizeLine; decide) (fun h2 hk2 he2 => ?_)
  have kk : ∀ b o, b ≠ e → h0.get? b = some o → h2.get? b = some o := fun b o hb q => hk2 b o hb (Heap.get?_push_of_some _ (hk1 b o q))
  have nF : s.heap.objs.size ≠ e := (Nat.ne_of_lt (Heap.lt_size he)).symm
  have X3 : K.In h2 := fun a o q => by
    by_cases z : a = e
    · rw [z] at q
      have y := M.kin _ _ q
      rw [hbe] at y
      cases y
    · exact kk a o z (X0 a o q)
  have hns2 : h2.Ns s.heap.objs.size (fun x => ([(("self" : Str), Value.ref e), (("value" : Str), u)] : List (Str × Value)).reverse.lookup x) := by
    obtain ⟨o, es, ep, ho, r⟩ := hns
    exact ⟨o, es, ep, kk _ _ nF ho, r⟩
  refine wpAt_of_wpAny (wpAny_execs_cons (plainObj_wpAny_Assign_Attribute (wpAny_Name (wpAny_loadName_local rfl rfl hns2 rfl (wpAny_Name (wpAny_loadName_local rfl rfl hns2 rfl ?_))))))
  refine PySem.W.set_plain X3 (od := none) ⟨he2, rfl, rfl, trivial⟩ c.sa ?_
  have big : s.heap.objs.size ≤ h2.objs.size := by
    obtain ⟨o, es, ep, ho, _⟩ := hns2
    exact Nat.le_of_lt (Heap.lt_size ho)
  refine HandSPX.exc_osa X3 he2 hcl (show HandSPX.refsVE (.ref C :: bm) = true from hbm) rfl c.nv (fun h' tk' dx k dn dne hx hn => ?_)
  refine wpAny_execs_nil ?_
  exact hR h' dx _ tk' (fun b o hb q => k b o hb (kk b o hb (hk0 b o q))) (Nat.le_trans big dn) dne hx hn
end
end Aim
namespace Aim
open PySem PySem.Spec PyProof.Rows L2
def XcV (cls : Value) (d : Option Addr) (a : Addr) : HO := .ext fun h => ∃ (oe : Obj) (vs : Array Value), h.get? a = some oe ∧ Zc cls d oe ∧ oe.data = .fields vs
theorem XcV.ok {P : Program} {w : World} {H : Hp} {h : Heap} {a : Addr} {cls : Value} {d : Option Addr} {oe : Obj} {vs : Array Value} (e : h.get? a = some oe) (z : Zc cls d oe) (q : oe.data = .fields vs) : ObjOk P w H h a (XcV cls d a) :=
  ⟨⟨oe, vs, e, z, q⟩, ⟨oe, e⟩, fun _ _ ⟨o, v, x, y⟩ k => ⟨o, v, k o x, y⟩⟩
theorem XcV.at {P : Program} {w : World} {H : Hp} {h : Heap} {a : Addr} {cls : Value} {d : Option Addr} (hok : HOk P w H h) (e : H a = some (XcV cls d a)) : ∃ (oe : Obj) (vs : Array Value), h.get? a = some oe ∧ Zc cls d oe ∧ oe.data = .fields vs := by
  obtain ⟨x, _, _⟩ := (show ObjOk P w H h a (XcV cls d a) from hok a _ e)
  exact x
theorem xcv_np {cls : Value} {d : Option Addr} {n : Nat} {a : Addr} : XcV cls d a ≠ PotO n a := fun z => by
  unfold XcV PotO at z
  injection z with z
  -- a heap with a pot at a bears no error there
  obtain ⟨h, hh⟩ : ∃ h : Heap, h.get? a = some { cls := .type "list", data := .seq #[.int 0 0, .int 0 0, .int 0 0] 0 } := ⟨⟨Array.replicate (a + 1) { cls := .type "list", data := .seq #[.int 0 0, .int 0 0, .int 0 0] 0 }, {}⟩, by simp [Heap.get?]⟩
  have y := congrFun z h
  have q : ∃ (oe : Obj) (vs : Array Value), h.get? a = some oe ∧ Zc cls d oe ∧ oe.data = .fields vs := by
    rw [y]
    exact ⟨0, 0, 0, 0, 0, 0, 0, hh, ⟨by omega, by decide, by decide, by omega, by omega⟩⟩
  obtain ⟨oe, vs, e1, _, e2⟩ := q
  rw [hh] at e1
  cases e1
  cases e2
section
variable {X : Cx} {pins : List (Addr × Obj)} {σ : L2.St} {H : Hp} {s : Shared}
theorem track {a : Addr} {o : HO} (I : Inv X pins σ H s) (na : H a = none) (n0 : X.s_0.heap.get? a = none) (nL : a ≠ X.env.locals) (nc : ∀ x c, X.env.cells.lookup x = some c → c ≠ a) (np : ∀ p ∈ X.pn ++ pins, p.1 ≠ a)
    (new : ObjOk X.prog X.w (upd H a o) s.heap a o) : Inv X pins σ (upd H a o) s := by
  have st : ∀ {b : Addr} {u : HO}, H b = some u → upd H a o b = some u := fun {b u} e => by
    rw [upd_ne (ne_of_none e na)]
    exact e
  refine ⟨I.ok, I.os, I.bare, ⟨I.base.keep, I.base.slot, fun b u e n x => ?_, I.base.there, fun b xs e => st (I.base.tups b xs e), fun b q u e => st (I.base.frzs b q u e), fun b ps e => ?_⟩, I.loc, I.cell, ?_, fun x c e => ?_, fun p hp => ?_, fun b u e => ?_, I.len⟩
  · rw [upd_ne (fun z => by rw [z, n0] at e; cases e)]
    exact I.base.free b u e n x
  · obtain ⟨m, q⟩ := I.base.tbls b ps e
    exact ⟨m, st q⟩
  · rw [upd_ne nL.symm]
    exact I.free
  · rw [upd_ne (nc x c e)]
    exact I.freeC x c e
  · obtain ⟨e, n, r⟩ := I.pin p hp
    exact ⟨e, by rw [upd_ne (np p hp)]; exact n, r⟩
  · by_cases hb : b = a
    · subst hb
      rw [upd_same] at e
      cases e
      exact new
    · rw [upd_ne hb] at e
      exact (I.hok b u e).stay (fun _ _ _ q => q) (fun _ q => st q) fun _ _ q => st q
end
section
variable {X : Cx} {x : Str} {f C D : Addr} {st : Stmt} {e : Expr} {te : TE} {p pos : Pos}
theorem made_aim {pins : List (Addr × Obj)} {σ : L2.St} {H : Hp} {s : Shared} {v : V} {u : Value} {Q : Value → Shared → Prop} (Z : AimI X.prog X.K st f D) (c : AimC X.K f D C) (hsup : X.mg "super" = none) (hr : Room 1 X.A) (I : Inv X pins σ H s) (rv : RelV v u)
    (h : ∀ (a dx t1 : Addr) (h' : Heap) (tk : Nat), H a = none → H dx = none → dx ≠ a → s.heap.get? a = none → (∀ b o, s.heap.get? b = some o → h'.get? b = some o) → s.heap.objs.size ≤ a → s.heap.objs.size ≤ dx →
      h'.get? a = some ({ cls := .ref C, dict := some dx, data := .fields #[.ref t1, .none, .none, .none, .bool false, .none] } : Obj) → (∀ (G : Hp) (g : Heap), (∀ o, h'.get? dx = some o → g.get? dx = some o) → ObjOk X.prog X.w G g dx (.xd [("value", v)])) → Q (.ref a) { s with heap := h', toks := tk }) :
    wpAny (model X.prog X.w) X.A (call (.ref C) [u]) Q X.xe s := by
  obtain ⟨nm, q, N, bs, bm, sn, sub, ab, col, dd, k0, k1, k2, k3, k5, hC, hbm⟩ := c.cls
  obtain ⟨hp, g, dr, tk, os⟩ := s
  have kk : ∀ b o, hp.get? b = some o → ((hp.push (PySem.W.kdv_tup [u])).push (HandSPX.excO C hp.objs.size)).get? b = some o := fun b o e => Heap.get?_push_of_some _ (Heap.get?_push_of_some _ e)
  have hget : ((hp.push (PySem.W.kdv_tup [u])).push (HandSPX.excO C hp.objs.size)).get? (hp.objs.size + 1) = some (HandSPX.excO C hp.objs.size) := by heap_get
  have hsz : hp.objs.size ≤ hp.objs.size + 1 := Nat.le_succ _
  have gone : hp.get? (hp.objs.size + 1) = none := by
    cases z : hp.get? (hp.objs.size + 1) with
    | none => rfl
    | some o => exact absurd (Nat.lt_of_lt_of_le (Heap.lt_size z) hsz) (Nat.lt_irrefl _)
  have bn : X.base.get? (hp.objs.size + 1) = none := by
    cases z : X.base.get? (hp.objs.size + 1) with
    | none => rfl
    | some o =>
      have y := I.bk _ _ z
      rw [gone] at y
      cases y
  refine wpAny_call (HandSPX.call_own F.excBase_ValueError (fun Y => HandSPX.refsVE_contains Y bm hbm) (I.kIn _ _ hC) (PySem.W.looks_findIn I.kIn c.ini) (fun self => PySem.W.bind_fn I.kIn self Z.tI) (by show 1 ≤ sizeLine; decide) ?_)
  refine aim_init (mg := X.mg) (base := X.base) (t0 := hp.objs.size) I.mod (fun b o q => kk b o (I.bk b o q)) Z c hsup ?_ hget bn (fun h' dx t1 tk' k hd hne hx hn => ⟨rfl, ?_⟩)
  · have y := hr.dp
    rw [make_depth]
    omega
  have ksz : hp.objs.size ≤ ((hp.push (PySem.W.kdv_tup [u])).push (HandSPX.excO C hp.objs.size)).objs.size := by
    rw [Heap.size_push, Heap.size_push]
    omega
  have hd2 : hp.objs.size ≤ dx := Nat.le_trans ksz hd
  refine h (hp.objs.size + 1) dx t1 h' tk' (I.hok.fresh hsz) (I.hok.fresh hd2) hne gone (fun b o q => k b o (fun z => by rw [z, gone] at q; cases q) (kk b o q)) hsz hd2 hx (fun G g' hg => ?_)
  exact ⟨_, hn.at hg, relO_put (fs := []) rv fun _ => True.intro⟩
def tMkA (C : Addr) (te : TE) : L2.St → Hp → XK → Prop := fun σ H Q => te σ H fun v H1 => ∀ d, H1 d = none → Q (.ref C) (some d) (upd H1 d (.xd [("value", v)]))
theorem pmk_aim (Z : AimI X.prog X.K st f D) (c : AimC X.K f D C) (hsup : X.mg "super" = none) (hr : Room 1 X.A) (hg : Gl X x) (hm : X.mg x = some (.ref C)) (he : PE X e te)
    (hdb : (x == ("__debug__" : Str)) = false := by decide) (hs : starEach [e] X.env = (false, eval e X.env) :: starEach [] X.env := by rfl) : PMk X (.Call (.Name x p) [e] [] pos) (tMkA C te) := by
  intro pins s σ H Q I h
  refine wpAny_Call_Name_kw (ld_glob I hg hm ?_ hdb)
  refine PySem.W.callWith_K (h₀ := X.base) I.ok.mod.kin c.kC ?_ hs (by rfl)
  rw [hs]
  refine Calls.spliced_cons (thn (he.run pins s σ H _ I h) fun u s1 hq90 => ?_)
  obtain ⟨v, H1, I1, rv, q1⟩ := hq90
  refine Calls.spliced_nil ⟨I1.kIn, ?_⟩
  refine made_aim Z c hsup hr I1 rv fun a dx t1 h' tk na nd ne ga k hsz hsd hx hxd => ?_
  obtain ⟨G, g1, g2⟩ := restrict h' fun b => decide (b ≠ a)
  have gk : ∀ b, b ≠ a → G.get? b = h'.get? b := fun b hb => g1 b (decide_eq_true hb)
  have ge : G.get? a = none := g2 a (by simp)
  have J := I1.laid (t' := tk) (a := dx) (o := .xd [("value", v)]) (h' := G) (fun b o q => by rw [gk b (fun z => by rw [z, ga] at q; cases q)]; exact k b o q) hsd (hxd _ G fun o q => by rw [gk dx ne]; exact q)
  refine ⟨a, _, _, _, _, .ref C, some dx, rfl, J, fun b o q => ?_, ge, hx, ⟨rfl, rfl⟩, rfl, rfl, ?_, rfl, I1.bare, raises_own c.toOexC.exC c.tyC, q1 dx nd⟩
  · by_cases hb : b = a
    · rw [hb, ge] at q
      cases q
    · rw [← gk b hb]
      exact q
  · rw [upd_ne ne.symm]
    exact na
end
def wKeep (K : PySem.W.Frag) (c : Value) (n i : Nat) (ts : Addr → TS) (Wout : WX) (D : Ends) : WX := fun cls d σ H =>
  ∃ b, PySem.W.exmOne K cls c = some b ∧ (b = true → ∀ a, H a = none → σ.length = n → ts a { nx := fun σ' H' => D.nx (σ'.set i none) (upd H' a (XcV cls d a)), rt := fun _ _ => False } (σ.set i (some (.ref a))) H) ∧ (b = false → Wout cls d σ H)
section
variable {X : Cx} {x n : Str} {c : Value} {i : Nat} {body suite : List Stmt} {b0 : Stmt} {np pos pos' : Pos} {tb : WX → TS} {ts : Addr → TS} {Wout : WX}
theorem ps_try_keep (hs : X.stack = X.env :: X.outer) (hf : X.env.frame = some X.env.locals) (hex : X.ex = []) (hN : X.N.Nodup) (hi : X.N[i]? = some n) (hln : X.env.kindOf n = some .local) (hc : Gl X x) (hmx : X.mg x = some c) (hxd : (x == ("__debug__" : Str)) = false) (tk : Takes X Wout)
    (hb : ∀ (W : WX) (pn : List (Addr × Obj)) (xe : Value → Shared → Prop), Takes (X.tr pn xe) W → PassesOwn (model X.prog X.w) X.A X.env xe → PSs (X.tr pn xe) body (tb W))
    (hsu : ∀ (a : Addr) (oe : Obj) (pn : List (Addr × Obj)), PSs (X.suite a ((a, oe) :: pn)) (b0 :: suite) (ts a)) :
    PS X (.Try body [.ExceptHandler (some (.Name x np)) (some n) (b0 :: suite) pos'] [] [] pos) (fun D σ H => tb (wKeep X.K c X.N.length i ts Wout D) D σ H) := by
  constructor
  intro pins s σ H D I h
  have ok := I.ok
  have frA : X.A.frames = some (X.env :: X.outer) := by rw [ok.frames, hs]
  refine wpAny_Try_except ?_
  have run := (hb (wKeep X.K c X.N.length i ts Wout D) (X.pn ++ pins) (fun e s1 => wpAny (model X.prog X.w) X.A (noteFrame e X.env) (fun _ s2 => wpAny (model X.prog X.w) X.A (setFlight e none) (fun _ s3 =>
    wpAny (model X.prog X.w) X.A (handleBy e X.env [.ExceptHandler (some (.Name x np)) (some n) (b0 :: suite) pos']) (SP X pins D) X.xe s3) X.xe s2) X.xe s1) ?_ PassesOwn.looking).run [] s σ H D (I.toTry _) h
  · refine wpAny_mono run (fun f s1 hsp => ?_) fun _ _ he => he
    rcases f with _ | _ | _ | u
    all_goals first
      | (obtain ⟨σ', H', J', q⟩ := hsp; exact wpAny_execs_nil ⟨σ', H', J'.ofTry ok, q⟩)
      | (obtain ⟨σ', H', J', q⟩ := hsp; exact ⟨σ', H', J'.ofTry ok, q⟩)
      | (obtain ⟨v, σ', H', J', r, q⟩ := hsp; exact ⟨v, σ', H', J'.ofTry ok, r, q⟩)
  · -- an error of the body
    rintro u s' ⟨a, B, sI, pins', σ', H', cls, d, rfl, J', nb, up, sky, na, os, ag, b, hb1, hyes, hno⟩
    have J : Inv X pins σ' H' sI := J'.ofTry ok
    rw [show (X.tr (X.pn ++ pins) _).stack = X.env :: X.outer from hs] at sky
    refine Sky.land Zc.steady frA hf sky fun h3 fl3 up3 => ?_
    have J3 : Inv X pins σ' H' { s' with heap := h3 } := J.landed nb fl3.1 (up.trans up3) os ag
    obtain ⟨oe3, vs3, he3, hz3, hd3⟩ := fl3.there
    have nfr : a ∉ frs (X.env :: X.outer) := fun hm => by
      obtain ⟨_, o', e', hnf⟩ := fl3.2.2.1.mem hm
      rw [he3] at e'
      cases e'
      exact hnf _ hd3
    have nL : a ≠ X.env.locals := fun z => nfr (List.mem_filterMap.mpr ⟨X.env, List.mem_cons_self, by rw [hf, z]⟩)
    have nF : a ∉ X.fs := fun hm => by
      obtain ⟨e, he, q⟩ := List.mem_filterMap.mp hm
      exact nfr (List.mem_filterMap.mpr ⟨e, List.mem_cons_of_mem _ he, q⟩)
    -- the object is none of those ahead
    have nI : sI.heap.get? a = none := by
      cases z : sI.heap.get? a with
      | none => rfl
      | some o =>
        have y := nb a o z (by rw [show (X.tr (X.pn ++ pins) _).stack = X.env :: X.outer from hs]; exact nfr)
        rw [fl3.2.1] at y
        cases y
    have n0 : X.s_0.heap.get? a = none := by
      cases z : X.s_0.heap.get? a with
      | none => rfl
      | some o =>
        obtain ⟨o', y⟩ := J.base.there a o z (by rw [hex]; exact fun z => nomatch z)
        rw [nI] at y
        cases y
    have np' : ∀ p ∈ X.pn ++ pins, p.1 ≠ a := fun p hp z => by
      obtain ⟨y, _⟩ := J.pin p hp
      rw [z, nI] at y
      cases y
    have S3 := J3.suite he3 hd3 na nL nF
    refine wpAny_handleBy_cons (codeAny_handlers_test ?_) (by intro q; cases q)
    have LT : PySem.W.Looks (model X.prog X.w) h3 (typeOf (.ref a)) cls := fun A Q E s k q => wpAny_typeOf_ref (k _ _ he3) (by rw [hz3.1]; exact q)
    have LM := PySem.W.exm_one (M := model X.prog X.w) J3.kIn LT hb1
    refine ld_glob (X := X.suite a ((a, oe3) :: (X.pn ++ pins))) S3 hc hmx (LM.here ?_) hxd
    cases b with
    | true =>
      refine codeAny_handlers_suite_as (HandSPX.lands_againZ fl3 fun h4 fl4 up4 => ?_)
      have J4 : Inv X pins σ' H' { s' with heap := h4 } := J.landed nb fl4.1 ((up.trans up3).trans up4) os ag
      obtain ⟨oe4, vs4, he4, hz4, hd4⟩ := fl4.there
      refine store_ok (X := X.suite a ((a, oe4) :: (X.pn ++ pins))) (v := .ref a) (J4.suite he4 hd4 na nL nF) hN hi (.inl hln) rfl (fun s5 S5 => ?_) (.inr hln)
      refine wpAny_mono ((hsu a oe4 (X.pn ++ pins)).run [] s5 _ H' _ S5 (hyes rfl a na J.len)) (fun f s6 hsp => ?_) fun _ _ z => False.elim z
      rcases f with _ | _ | _ | u
      · obtain ⟨σ6, H6, S6, q6⟩ := hsp
        obtain ⟨p1, p2, _⟩ := S6.pin (a, oe4) (List.mem_append_left _ List.mem_cons_self)
        have T6 := track (o := XcV cls d a) (S6.unsuite ok) p2 n0 nL (fun y cy e z => by
          obtain ⟨vc, oc, o1, o2⟩ := S6.cell y cy e
          rw [z] at o1
          have e1 : s6.heap.get? a = some oe4 := p1
          rw [e1] at o1
          cases o1
          rw [hd4] at o2
          cases o2) np' (XcV.ok (show s6.heap.get? a = some oe4 from p1) hz4 hd4)
        exact gone_ok T6 hN hi hln fun s7 J7 => ⟨_, _, J7, q6⟩
      · obtain ⟨_, _, _, q⟩ := hsp
        exact False.elim q
      · obtain ⟨_, _, _, q⟩ := hsp
        exact False.elim q
      · obtain ⟨_, _, _, _, _, q⟩ := hsp
        exact False.elim q
    | false =>
      refine wpAny_handleBy_nil ?_
      obtain ⟨k1, k2, k3, oe, vs, T, oT, ts', he, hz, hd, h1, hr⟩ := id fl3
      unfold PySem.passOn
      refine wpAny_bind (wpAny_field he hd h1 ?_)
      rw [if_neg (show ¬ ((Value.ref T == Value.none) = true) from by simp)]
      refine wpAny_bind ?_
      rw [hf]
      refine HandSPX.setFlight_upZ fl3 fun h4 hh4 up4 => wpAny_throw (tk _ _ ?_)
      exact ⟨a, B, sI, pins, σ', H', cls, d, rfl, J, nb, (up.trans up3).trans up4, .inr (.inr (by rw [hs]; exact hh4)), na, os, ag, hno rfl⟩
end
section
variable {X : Cx}
def tXcv (K : PySem.W.Frag) (te : TE) : TE := fun σ H Q => te σ H fun x H1 => ∃ (a C d f D : Addr) (v : V), x = .ref a ∧ H1 a = some (XcV (.ref C) (some d) a) ∧ AimC K f D C ∧ H1 d = some (.xd [("value", v)]) ∧ Q v H1
theorem pe_xcv {e : Expr} {te : TE} {pos : Pos} (he : PE X e te) (hb : attributeBase e "value" X.env (eval e X.env) = eval e X.env := by rfl) : PE X (.Attribute e "value" pos) (tXcv X.K te) := by
  refine ⟨fun pins s σ H Q I h => attr_of hb (thn (he.run pins s σ H _ I h) fun u s1 hq90 => ?_)⟩
  obtain ⟨x, H1, I1, rx, a, C, d, f, D, v, ex, ha, c, hd, q⟩ := hq90
  subst ex
  obtain rfl : u = Value.ref a := rx
  obtain ⟨oe, vs, hg, hz, hv⟩ := XcV.at I1.hok ha
  obtain ⟨mA, hns, hr⟩ := (show ObjOk X.prog X.w H1 s1.heap d (.xd [("value", v)]) from I1.hok d _ hd)
  obtain ⟨od, ho, hl⟩ := lookIn_ns hns
  obtain ⟨w, hw, rw'⟩ := RelO.some_of (v := v) (o := mA "value") (by have z := hr "value"; simpa [List.lookup] using z)
  have J : PySem.W.InstAt s1.heap a oe C (some od) := ⟨hg, hz.1, by unfold PySem.W.notCls; rw [hv] <;> rfl, by rw [hz.2]; exact ho⟩
  exact HandSPX.exc_get I1.kIn J c.ga c.gg c.toXfC.exC (PySem.W.findObj_own c.hdC c.nv rfl (by rw [hl, hw])) (handed_of rw') ⟨v, H1, I1.tok _, rw', q⟩
def rIsX (K : PySem.W.Frag) : List V → Hp → VK → Prop := fun xs H Q => ∃ (a C f D : Addr) (d : Option Addr) (k : V) (kv : Value) (b : Bool), xs = [.ref a, k] ∧ H a = some (XcV (.ref C) d a) ∧ AimC K f D C ∧ (∃ dd fs, d = some dd ∧ H dd = some (.xd fs)) ∧ ClsV k kv ∧ PySem.W.kitOne K (.ref C) kv = some b ∧ Q (.bl b) H
theorem call_isX : CallR X (.builtin "isinstance") (rIsX X.K) := by
  intro pins s σ H xs us Q I r ⟨a, C, f, D, d, k, kv, b, ex, ha, c, ⟨dd, fs, ed, hdd⟩, hk, e, q⟩
  subst ex
  subst ed
  obtain ⟨u1, u2, rfl, r1, r2⟩ := vals2 r
  obtain rfl : u1 = Value.ref a := r1
  have e2 := hk.eq r2
  subst e2
  obtain ⟨oe, vs, hg, hz, hv⟩ := XcV.at I.hok ha
  obtain ⟨mA, hns, _⟩ := (show ObjOk X.prog X.w H s.heap dd (.xd fs) from I.hok dd _ hdd)
  obtain ⟨od, ho, _⟩ := lookIn_ns hns
  have J : PySem.W.InstAt s.heap a oe C (some od) := ⟨hg, hz.1, by unfold PySem.W.notCls; rw [hv] <;> rfl, by rw [hz.2]; exact ho⟩
  have hcl : (PySem.W.clsIn X.K C).isSome = true := by
    obtain ⟨cd, hc, _⟩ := PySem.W.any_some c.hdC
    rw [hc]
    rfl
  exact PySem.W.kia_one (PySem.W.kitx_exc hcl c.ga c.gg c.toXfC.exC c.own c.get c.tak c.obj) I.kIn J e (fun z => nomatch z) fun tk => ⟨.bl b, H, I.tok tk, rfl, q⟩
end
end Aim
namespace Aim
open PySem PySem.Spec PyProof.Rows L2
structure Rn (P : Program) (w : World) (K : PySem.W.Frag) (mg : Str → Option Value) (base : Heap) (G : Bool) (k : Nat) (f : Addr) (fd : FuncData) (ps : List Str) (sp : Sp) : Prop where
  len : ∀ vs H Q E, sp vs H Q E → vs.length = ps.length
  run : ∀ {A : Around} {fr : List Env} {s : Shared} {H : Hp} {args : Args} {us : List Value} {vs : List V} {Q : VK} {E : XK}, Room k A → (G = true → A.guards = some []) → Env0 P w K mg base A fr s H → BindsTo s fd args (ps.zip us) → Vals vs us → sp vs H Q E →
    codeAny (model P w) A (.call (.ref f) args) (CR (L2.CX P w) fr P w H s Q E) s
structure Df (P : Program) (w : World) (K : PySem.W.Frag) (mg : Str → Option Value) (base : Heap) (G : Bool) (k : Nat) (x : Str) (sp : Sp) : Prop where
  ex : ∃ (f : Addr) (fd : FuncData) (ps : List Str), Rn P w K mg base G k f fd ps sp ∧ mg x = some (.ref f) ∧ PySem.W.keepIn K (.ref f) = true ∧ L2.Binds K fd ps []
section
variable {P : Program} {w : World} {K : PySem.W.Frag} {mg : Str → Option Value} {base : Heap} {G : Bool}
theorem Df.mono {k j : Nat} {x : Str} {sp : Sp} (d : Df P w K mg base G k x sp) (h : k ≤ j) : Df P w K mg base G j x sp := by
  obtain ⟨f, fd, ps, F, r⟩ := d.ex
  exact ⟨f, fd, ps, ⟨F.len, fun hr => F.run (hr.mono h)⟩, r⟩
theorem Df.imp {k : Nat} {x : Str} {sp sp' : Sp} (d : Df P w K mg base G k x sp) (h : ∀ vs H Q E, sp' vs H Q E → sp vs H Q E) : Df P w K mg base G k x sp' := by
  obtain ⟨f, fd, ps, F, r⟩ := d.ex
  exact ⟨f, fd, ps, ⟨fun vs H Q E q => F.len vs H Q E (h _ _ _ _ q), fun hr hg e b v q => F.run hr hg e b v (h _ _ _ _ q)⟩, r⟩
theorem df_okX {x : Str} {st : Stmt} {f : Addr} {fd : FuncData} {N ps : List Str} {k : Nat} {sp : Sp} (F : L2.Fun K x x st f fd) (hm : mg x = some (.ref f)) (hb : L2.Binds K fd ps []) (S : FnScope N ps (defScope st)) (len : ∀ vs H Q E, sp vs H Q E → vs.length = ps.length)
    (body : ∀ (cdv : Value) (A : Around) (outer : List Env) (s : Shared) (H : Hp) (vs : List V) (Q : VK) (E : XK), Room k (A.deeper (envOfC x (defScope st) s.heap.objs.size f cdv)) → (G = true → A.guards = some []) → sp vs H Q E →
      ∃ t, PSs (cxOf (L2.CX P w) P w K mg base N x (defScope st) f cdv A outer s H E) (defBody st) t ∧ t { nx := fun _ H' => Q .non H', rt := Q } (start N vs) H) : Df P w K mg base G (k + 1) x sp := by
  obtain ⟨oc, od, kV, doc, pm, an, cdv, ct, osl, rfl, lk, hcd⟩ := F.ex
  refine ⟨f, _, ps, ⟨len, fun hr hg e0 b r q => LamX.run_ofS lk hcd S hr e0 b r (len _ _ _ _ q) fun hr' => body cdv _ _ _ _ _ _ _ hr' hg q⟩, hm, F.kp, hb⟩
theorem df_ok {x : Str} {st : Stmt} {f : Addr} {fd : FuncData} {N ps : List Str} {k : Nat} {sp : Sp} (F : L2.Fun K x x st f fd) (hm : mg x = some (.ref f)) (hb : L2.Binds K fd ps []) (S : FnScope N ps (defScope st)) (len : ∀ vs H Q E, sp vs H Q E → vs.length = ps.length)
    (body : ∀ (cdv : Value) (A : Around) (outer : List Env) (s : Shared) (H : Hp) (vs : List V) (Q : VK) (E : XK), Room k (A.deeper (envOfC x (defScope st) s.heap.objs.size f cdv)) → (G = true → A.guards = some []) → sp vs H Q E →
      ∃ t, PSs (cxOf (L2.CX P w) P w K mg base N x (defScope st) f cdv A outer s H E).nox (defBody st) t ∧ t { nx := fun _ H' => Q .non H', rt := Q } (start N vs) H) : Df P w K mg base G (k + 1) x sp :=
  df_okX F hm hb S len fun cdv A outer s H vs Q E hr hg q => by
    obtain ⟨t, h, z⟩ := body cdv A outer s H vs Q E hr hg q
    exact ⟨t, h.nox, z⟩
end
def Hides : HO → Prop
  | .lst _ => True
  | .dK _ => True
  | .ext _ => True
  | _ => False
section
variable {P : Program} {w : World} {H H' : Hp} {h h' : Heap} {hid : List Addr} {b : Addr} {o : HO}
theorem ok_beside (x : ObjOk P w H h b o) (ho : ∀ c, H c = some (.own b) → H' c = some (.own b)) (ht : ∀ c xs, H c = some (.tup xs) → H' c = some (.tup xs)) : ObjOk P w H' h b o :=
  x.stay (fun _ _ _ e => e) ho ht
theorem ok_hidden (m : Hides o) (x : ObjOk P w H h b o) (k : ∀ u, h.get? b = some u → h'.get? b = some u) : ObjOk P w H' h' b o := by
  cases o with
  | lst xs =>
    obtain ⟨z, its, n, r, e⟩ := x
    exact ⟨z, its, n, r, k _ e⟩
  | dK kvs =>
    obtain ⟨z, y, vs, r, u, es, ep, e, q⟩ := x
    exact ⟨z, y, vs, r, u, es, ep, k _ e, q⟩
  | ext φ =>
    obtain ⟨p, ⟨u, e⟩, q⟩ := x
    exact ⟨q _ _ p k, ⟨u, k _ e⟩, q⟩
  | _ => exact m.elim
end
section
variable {X : Cx} {k j : Nat} {G : Bool} {x : Str} {sp : Sp} {E : XK} {e : Expr} {es : List Expr} {t : TA} {p pos : Pos}
end
end Aim
namespace Aim
open PySem PySem.Spec PyProof.Rows L2
open LamX (TabB)
def atEntry (K : PySem.W.Frag) (ts : List Addr) (a : Addr) (o : Obj) (xs : List V) : Hp := fun b =>
  if b ∈ ts then some (.tbl #[]) else if b = a ∧ K.lookup a = none then some (.frz o (.lst xs)) else none
section
variable {K : PySem.W.Frag} {ts : List Addr} {a b : Addr} {o : Obj} {xs : List V}
theorem entry_tab (h : b ∈ ts) : atEntry K ts a o xs b = some (.tbl #[]) := if_pos h
theorem entry_cases {u : HO} (h : atEntry K ts a o xs b = some u) : (b ∈ ts ∧ u = .tbl #[]) ∨ (b ∉ ts ∧ b = a ∧ K.lookup a = none ∧ u = .frz o (.lst xs)) := by
  unfold atEntry at h
  by_cases h1 : b ∈ ts
  · rw [if_pos h1] at h
    exact .inl ⟨h1, (Option.some.inj h).symm⟩
  · rw [if_neg h1] at h
    by_cases h2 : b = a ∧ K.lookup a = none
    · rw [if_pos h2] at h
      exact .inr ⟨h1, h2.1, h2.2, (Option.some.inj h).symm⟩
    · rw [if_neg h2] at h
      cases h
theorem entry_none (h1 : b ∉ ts) (h2 : b = a → K.lookup a ≠ none) : atEntry K ts a o xs b = none := by
  unfold atEntry
  rw [if_neg h1, if_neg fun z => h2 z.1 z.2]
end
abbrev tab0 : Obj := { cls := .none, data := .fields #[] }
section
variable {P : Program} {w : World} {K : PySem.W.Frag} {mg mb : Str → Option Value} {k : Nat} {G : Bool} {fa a : Addr} {cs : List (Addr × Addr)} {fd : FuncData} {x : Str} {sp : Sp} {s₁ : Shared} {vs : List Value} {ns : List Int}
theorem call_law (KX : K.In s₁.heap) (hns : s₁.heap.Ns mainGlobals mg) (hb : s₁.heap.Ns builtinsNs mb) (hbb : ∀ x : Str, x ≠ "__name__" → mb x = bootBuiltins x) (hlim : s₁.heap.NoLimit) (hg : s₁.gens = #[])
    (hT : ∀ p ∈ cs, s₁.heap.get? p.2 = some tab0) (nT : ∀ p ∈ cs, K.lookup p.2 = none) (hC : ∀ p ∈ cs, PySem.W.CodeHd s₁.heap p.1 p.2)
    (hbm : ∃ (bm : Addr) (ob : Obj), mg "__builtins__" = some (.ref bm) ∧ bm ≠ builtinsNs ∧ s₁.heap.get? bm = some ob ∧ ob.cls = .type "module" ∧ ob.dict = some builtinsNs ∧ ob.data = .plain)
    (ha : s₁.heap.get? a = some { cls := .type "list", data := .seq vs.toArray }) (hi : IntsAre vs ns) (hl : ns.length ≤ sizeLine) (hr : Room k callerA)
    (F : ∀ base : Heap, K.In base → base.Ns mainGlobals mg → (∀ m, s₁.heap.Ns sysModules m → base.Ns sysModules m) → (∀ p ∈ cs, TabB base mg p.1 p.2) → Rn P w K mg base G k fa fd [x] sp) (hbind : ∀ (s : Shared) (u : Value), BindsTo s fd ⟨[u], []⟩ [(x, u)])
    (hsp : ∀ H : Hp, (∀ p ∈ cs, H p.2 = some (.tbl #[])) → SqL K H a (ns.map V.int) → sp [.ref a] H (fun v _ => v = .bl true) E0) :
    codeAny (model P w) callerA (.call (.ref fa) ⟨[.ref a], []⟩) (fun r s' => r = .ok (.ret (.bool true)) ∧ OldK s₁.heap s'.heap ∧ s'.os = s₁.os ∧ AllBare s'.gens) s₁ := by
  let ts := cs.map (·.2)
  let oa : Obj := { cls := .type "list", data := .seq vs.toArray }
  let H := atEntry K ts a oa (ns.map V.int)
  have rv : Vals (ns.map V.int) vs := vals_ints hi
  have tabs : ∀ b ∈ ts, s₁.heap.get? b = some tab0 ∧ K.lookup b = none := by
    rintro b hm
    obtain ⟨p, hp, rfl⟩ := List.mem_map.mp hm
    exact ⟨hT p hp, nT p hp⟩
  have mem : ∀ p ∈ cs, p.2 ∈ ts := fun p hp => List.mem_map_of_mem hp
  have aOut : a ∉ ts := fun z => by
    have y := (tabs a z).1
    rw [ha] at y
    exact nomatch (Option.some.inj y)
  -- an object that is neither a table nor the script is not tracked
  have out : ∀ {b : Addr} {o : Obj}, s₁.heap.get? b = some o → o.data ≠ .fields #[] → (∀ u n, o.data ≠ .seq u n) → H b = none := fun {b o} e n1 n2 => by
    refine entry_none (fun z => ?_) fun z => ?_
    · have y := (tabs b z).1
      rw [e] at y
      cases y
      exact absurd rfl n1
    · rw [z, ha] at e
      cases e
      exact absurd rfl (n2 _ _)
  have stay : ∀ {b : Addr} {o : Obj}, s₁.heap.get? b = some o → H b = none → (hidT s₁.heap H).get? b = some o := fun e n => hidT_get e n
  have names : ∀ {b : Addr} {m : Str → Option Value}, s₁.heap.Ns b m → (hidT s₁.heap H).Ns b m := by
    rintro b m ⟨o, es, ep, e, d, r⟩
    exact ⟨o, es, ep, stay e (out e (by rw [d]; exact fun z => nomatch z) (by rw [d]; exact fun _ _ z => nomatch z)), d, r⟩
  have KB : K.In (hidT s₁.heap H) := fun b o e => stay (KX b o e) (entry_none (fun z => by rw [(tabs b z).2] at e; cases e) fun z y => by rw [z, y] at e; cases e)
  have md : L2.Mod K mg (hidT s₁.heap H) := by
    obtain ⟨mc, l1, l2⟩ := hlim
    exact ⟨KB, names hns, ⟨mb, names hb, hbb⟩, mc, names l1, l2⟩
  have TB : ∀ p ∈ cs, TabB (hidT s₁.heap H) mg p.1 p.2 := fun p hp => by
    have ht := hT p hp
    have gP : mainGlobals ≠ p.2 := fun z => by
      obtain ⟨o, es, ep, e, d, _⟩ := hns
      rw [z, ht] at e
      cases e
      cases d
    refine ⟨?_, ?_, gP⟩
    · obtain ⟨o, us, file, tf, flags, tg, inF, text, tt, e1, r1, r2, r3, r⟩ := hC p hp
      refine ⟨o, us, file, tf, flags, tg, inF, text, tt, stay e1 (out e1 (fun z => ?_) fun u n z => ?_), r1, r2, r3, r⟩
      · rw [r2] at z
        cases z
        simp at r3
      · rw [r2] at z
        cases z
    · obtain ⟨bm, ob, b1, b2, b3, b4, b5, b6⟩ := hbm
      refine ⟨bm, ob, b1, b2, fun z => ?_, fun z => ?_, stay b3 (out b3 (by rw [b6]; exact fun z => nomatch z) (by rw [b6]; exact fun _ _ z => nomatch z)), b4, b5, b6⟩
      · obtain ⟨o, es, ep, e, d, _⟩ := hns
        rw [← z, b3] at e
        cases e
        rw [b6] at d
        cases d
      · rw [z, ht] at b3
        cases b3
        cases b6
  have scr : ObjOk P w H s₁.heap a (.frz oa (.lst (ns.map V.int))) := ⟨ha, by rw [List.length_map]; exact hl, vs, 0, rv, ha⟩
  have ok : HOk P w H s₁.heap := fun b u e => by
    rcases entry_cases e with ⟨m, rfl⟩ | ⟨_, e1, _, rfl⟩
    · exact (tabs b m).1
    · rw [e1]
      exact scr
  have sq : SqL K H a (ns.map V.int) := by
    cases q : K.lookup a with
    | none => exact .inl (.inr ⟨oa, (if_neg aOut).trans (if_pos ⟨rfl, q⟩)⟩)
    | some o =>
      have e := KX a o q
      rw [ha] at e
      cases e
      exact .inr ⟨_, vs.toArray, _, q, rfl, rfl, rfl, by rw [List.size_toArray, hi.length]; exact hl, by simpa using rv⟩
  have tabH : ∀ p ∈ cs, H p.2 = some (.tbl #[]) := fun p hp => entry_tab (mem p hp)
  have e0 : Env0 P w K mg (hidT s₁.heap H) callerA [] s₁ H := ⟨rfl, md, fun b o e => of_hidT e, Nat.le_of_eq (hidT_size _ _), trivial, (by intro b z; exact absurd (show b ∈ ([] : List Addr) from z) (by simp)), ok, AllBare.of_eq hg⟩
  refine codeAny_mono ((F _ KB (names hns) (fun _ h => names h) TB).run (us := [.ref a]) (vs := [V.ref a]) hr (fun _ => rfl) e0 (hbind s₁ (.ref a)) (.cons rfl .nil) (hsp H tabH sq)) fun r s' h => ?_
  match r, h with
  | .error e, h =>
    obtain ⟨_, _, _, _, _, _, _, _, _, _, _, _, z⟩ := h
    exact z.elim
  | .ok (.ret u), ⟨v, H', os, bare, un, hok', r', q⟩ =>
    have q : v = .bl true := q
    rw [q] at r'
    obtain rfl : u = Value.bool true := r'
    -- what is no table stands as it was
    have key : ∀ b o, b ∉ ts → s₁.heap.get? b = some o → s'.heap.get? b = some o := fun b o nb e => by
      cases q : H b with
      | none => exact un.keep b o e q (by intro z; exact absurd (show b ∈ ([] : List Addr) from z) (by simp)) (by simp)
      | some u =>
        rcases entry_cases q with ⟨m, _⟩ | ⟨_, e1, _, rfl⟩
        · exact absurd m nb
        · obtain ⟨g1, _⟩ := ok b _ q
          obtain ⟨g2, _⟩ := hok' b _ (un.frzs b _ _ q)
          rw [e] at g1
          cases g1
          exact g2
    have grown : ∀ p ∈ cs, ∃ more : Array Value, s'.heap.get? p.2 = some { cls := .none, data := .fields more } := fun p hp => by
      obtain ⟨more, z⟩ := un.tbls p.2 #[] (tabH p hp)
      exact ⟨_, hok' p.2 _ z⟩
    refine ⟨rfl, ⟨fun b o e => ?_, fun b o e => ?_⟩, os, bare⟩
    · by_cases m : b ∈ ts
      · obtain ⟨p, hp, rfl⟩ := List.mem_map.mp m
        obtain ⟨more, hm⟩ := grown p hp
        have e' := hT p hp
        rw [e] at e'
        cases e'
        exact .inr (.inl ⟨((hC p hp).tab e).isCodeTable, rfl, #[], more, rfl, by simpa using hm⟩)
      · exact .inl (key b o m e)
    · by_cases m : b ∈ ts
      · obtain ⟨p, hp, rfl⟩ := List.mem_map.mp m
        obtain ⟨more, hm⟩ := grown p hp
        exact ⟨_, hm⟩
      · exact ⟨o, key b o m e⟩
def AtLaw (l : PySem.W.OpenLaw) (w : World) (K : PySem.W.Frag) (k n : Nat) (x : Str) (mg : Str → Option Value) (fa : Addr) (h : Heap) : Prop :=
  ∃ (fd : FuncData) (cs : List (Addr × Addr)) (sp : Sp), (∀ p ∈ cs, h.get? p.2 = some tab0 ∧ K.lookup p.2 = none ∧ PySem.W.CodeHd h p.1 p.2) ∧ (∀ (s : Shared) (u : Value), BindsTo s fd ⟨[u], []⟩ [(x, u)]) ∧
    (∀ (H : Hp) (a : Addr) (ns : List Int), ns.length ≤ n → (∀ z ∈ ns, Builtin.Int.intBits z ≤ 1048576) → (∀ p ∈ cs, H p.2 = some (.tbl #[])) → SqL K H a (ns.map V.int) → sp [.ref a] H (fun v _ => v = .bl true) E0) ∧
    ∀ base : Heap, K.In base → base.Ns mainGlobals mg → (∀ m, h.Ns sysModules m → base.Ns sysModules m) → (∀ p ∈ cs, TabB base mg p.1 p.2) → Rn l.prog w K mg base true k fa fd [x] sp
theorem walk_law {l : PySem.W.OpenLaw} {n : Nat} {q : Program} {loose : List Str} {XP : (Str → Option Value) → Heap → Prop} {YP : World → Heap → Prop} {d : DefRec} {K : Params → PySem.W.Frag}
    (hn : l.most = some n) (hn2 : n ≤ sizeLine) (hdf : d.params.defaults = []) (hr : Room k callerA) (hY : ∀ (w : World) (h : Heap), YP w h → (K w.params).In h)
    (F : ∀ (w : World) (mg : Str → Option Value) (fa : Addr) (h : Heap), YP w h → (K w.params).In h → h.Ns mainGlobals mg → mg d.name = some (.ref fa) →
      (∀ (x : Str) (d : DefRec) (c P : Addr), (recsOf q).find? (fun e => e.name == x) = some d → PySem.W.tabIn (K w.params) x = some (c, P) → PySem.W.CodeHd h c P ∧ h.get? P = some tab0) → (importsNone q = true → h.NoSeer) → AtLaw l w (K w.params) k n x mg fa h) :
    PySem.W.WalkO q loose XP YP l.row.toRowW d [] (fun f vs => PySem.call f vs) := by
  refine Att.attach_callB hn hdf fun w s₀ s₁ mg mb fa o pm cd doc a vs ns G Y ho hd hcd hmg hobj hints hlen hbits hg => ?_
  obtain ⟨fd, cs, sp, hT, hb, hsp, hF⟩ := F w mg fa _ Y (hY w _ Y) G.T.g hmg (fun x d c P h1 h2 => PySem.W.tab_of G.T (hY w _ Y) h1 h2) G.T.seer
  exact call_law (hY w _ Y) G.T.g G.T.b G.T.builtins G.T.nolimit hg (fun p hp => (hT p hp).1) (fun p hp => (hT p hp).2.1) (fun p hp => (hT p hp).2.2) G.T.bmain hobj hints (Nat.le_trans hlen hn2) hr hF hb fun H hH hS => hsp H a ns hlen hbits hH hS
end
end Aim
namespace Aim
open PySem PySem.Spec PyProof.Rows L2
open LamX (TabB CodeO GivesTo)
def TTc (K : PySem.W.Frag) (AE : Addr) : (XK → Hp → VK → Prop) → Hp → VK → Prop := fun tl H Q =>
  tl (fun cls d H' => PySem.W.exmOne K cls (.ref AE) = some true ∧ ∀ a, H' a = none → Q (.ref a) (upd H' a (XcV cls d a))) H fun _ H' => Q .non H'
theorem caught_gives {X : Cx} {x v a n e q : Str} {sg : Scope} {g AE : Addr} {cdg : Value} {j : Nat} {p1 p2 p3 p4 p5 p6 p7 p8 p9 p10 p11 p12 p13 p14 : Pos} (hge : sg.names.lookup e = some .globalImplicit) (hme : X.mg e = some (.ref AE)) (hde : (e == ("__debug__" : Str)) = false)
    (hv : sg.names.lookup v = some .local) (hn : sg.names.lookup n = some .local) (hnd : [a, v, n].Nodup) (hdv : (v == ("__debug__" : Str)) = false) (hcv : (v == ("__classdict__" : Str)) = false) (hdn : (n == ("__debug__" : Str)) = false) (hcn : (n == ("__classdict__" : Str)) = false) :
    GivesTo X [a, v, n] x sg g cdg [.Assign [.Name v p1] (.Constant .none j p2) p3, .Try [.Expr (.Call (.Name a p4) [] [] p5) p6] [.ExceptHandler (some (.Name e p7)) (some n) [.Assign [.Name v p8] (.Name n p9) p10] p11] [] [] p12, .Return (some (.Name v p13)) p14] a q (TTc X.K AE) := by
  intro f c' s H Q tl act hc h
  let Y := (cxOf C8.CX0 X.prog X.w X.K X.mg X.base [a, v, n] x sg g cdg X.A X.stack s H C8.E0).nox
  have hgl : Gl Y e := hge
  refine ⟨_, pss_cons (ps_asg pe_non (pg_name (i := 1) hnd rfl (.inl hv) (.inr hv))) (pss_cons (ps_try_keep (X := Y) (i := 2) (c := .ref AE) (Wout := fun _ _ _ _ => False)
      (tb := fun W D σ H => ∃ Ech : XK, (∀ cls d σ' H', Ech cls d H' → W cls d σ' H') ∧ σ[0]? = some (some (.ref f)) ∧ H c' = some (CodeO c' q) ∧ tl Ech H fun _ H' => D.nx σ H')
      rfl rfl rfl hnd rfl hn hgl hme hde LamX.takes0 (fun W pn xe tk _ => ?_) (fun b oe pn => pss_one (ps_asg (pe_var (i := 2) rfl (.inl hn) hdn hcn) (pg_name (i := 1) hnd rfl (.inl hv) (.inr hv))))) (pss_one (ps_ret (pe_var (i := 1) rfl (.inl hv) hdv hcv)))), ?_⟩
  · refine ⟨fun pins s' σ H' D I h' => ?_⟩
    obtain ⟨Ech, hW, h1, h2, h3⟩ := h'
    exact (pss_one (ps_expr (pos := p6) (act W pn xe Ech p4 p5 tk hW))).run pins s' σ H' D I ⟨h1, h2, h3⟩
  · refine ⟨fun cls d H' => PySem.W.exmOne X.K cls (.ref AE) = some true ∧ ∀ a, H' a = none → Q (.ref a) (upd H' a (XcV cls d a)), fun cls d σ' H' hh => ⟨true, hh.1, fun _ b hb hl => ?_, fun z => nomatch z⟩, rfl, hc, ?_⟩
    rotate_left
    · have e : (fun (_ : V) (H' : Hp) => ∃ u, (some (some V.non) : Option (Option V)) = some (some u) ∧ Q u H') = fun _ H' => Q .non H' := by
        funext _ H'
        exact propext ⟨fun ⟨_, e, q⟩ => by cases e; exact q, fun q => ⟨_, rfl, q⟩⟩
      have h : tl _ H _ := h
      rw [← e] at h
      exact h
    match σ', hl with
    | [_, _, _], _ => exact ⟨_, rfl, _, rfl, hh.2 b hb⟩
end Aim
namespace Aim
open PySem PySem.Spec PyProof.Rows L2
open LamX (TabB)
structure Has (K : PySem.W.Frag) (mg : Str → Option Value) (x : Str) (st : Stmt) : Prop where
  ex : ∃ (f : Addr) (fd : FuncData), L2.Fun K x x st f fd ∧ mg x = some (.ref f)
structure Blt (mg : Str → Option Value) : Prop where
  n_len : mg "len" = none
  n_int : mg "int" = none
  n_abs : mg "abs" = none
  n_isinstance : mg "isinstance" = none
  n_bool : mg "bool" = none
  n_str : mg "str" = none
  n_list : mg "list" = none
  n_tuple : mg "tuple" = none
  n_range : mg "range" = none
  n_max : mg "max" = none
  n_min : mg "min" = none
  n_all : mg "all" = none
  n_any : mg "any" = none
  n_zip : mg "zip" = none
  n_repr : mg "repr" = none
  n_super : mg "super" = none
  n_sorted : mg "sorted" = none
  n_enumerate : mg "enumerate" = none
  n_dict : mg "dict" = none
  n_set : mg "set" = none
  n_bytes : mg "bytes" = none
  n_sum : mg "sum" = none
section
variable {X : Cx} {x : Str} {v : V} {pos : Pos}
end
section
variable {K : PySem.W.Frag} {H : Hp}
theorem DD.tupOf {p : Addr} {xs : List V} {ds : List PyData} (h : H p = some (.tup xs)) (d : DDs K H xs ds) : DD K H (.ref p) (.tuple ds) := .tup (.inl (.inl h)) d
theorem DD.lstOf {p : Addr} {xs : List V} {ds : List PyData} (h : H p = some (.lst xs)) (d : DDs K H xs ds) : DD K H (.ref p) (.list ds) := .lst (.inl (.inl h)) d
theorem DD.isList {v : V} {d : PyData} (h : DD K H v d) (e : isD "list" d = true) : ∃ a xs ds, v = .ref a ∧ d = .list ds ∧ SqL K H a xs ∧ DDs K H xs ds := by
  cases h with
  | lst h1 h2 => exact ⟨_, _, _, rfl, rfl, h1, h2⟩
  | _ => simp [isD] at e
theorem DD.int_iff {v : V} {i : Int} (h : DD K H v (.int i)) : v = .int i := by cases h; rfl
theorem DD.bl_iff {v : V} {b : Bool} (h : DD K H v (.bool b)) : v = .bl b := by cases h; rfl
theorem DD.str_iff {v : V} {x : Str} (h : DD K H v (.str x)) : v = .str x := by cases h; rfl
theorem DD.non_iff {v : V} (h : DD K H v .none) : v = .non := by cases h; rfl
end
end Aim
namespace Aim
open PySem PySem.Spec PyProof.Rows L2
open LamX (TabB Tabs)
section
variable {K : PySem.W.Frag} {TT : List (Addr × Str)}
theorem lst_no_tab {H : Hp} {D : Addr} {acc bcc : List V} (h : H D = some (.lst acc)) (t : Tabs TT H) : Tabs TT (upd H D (.lst bcc)) := fun p hp => by
  obtain ⟨ps, h1, h2, h3⟩ := t p hp
  refine ⟨ps, ?_, h2, fun pos cv hc => ?_⟩
  · rw [upd_ne fun z => by rw [z, h] at h1; cases h1]
    exact h1
  · obtain ⟨c, e1, e2⟩ := h3 pos cv hc
    refine ⟨c, e1, ?_⟩
    rw [upd_ne fun z => by rw [z, h] at e2; unfold LamX.CodeO at e2; cases e2]
    exact e2
theorem Ext.put {H H' : Hp} {D : Addr} {acc bcc : List V} (e : Ext TT H H') (n : H D = none) (h : H' D = some (.lst acc)) : Ext TT H (upd H' D (.lst bcc)) := by
  refine ⟨fun b o q k1 k2 => ?_, fun t => lst_no_tab h (e.2 t)⟩
  rw [upd_ne (ne_of_none q n)]
  exact e.1 b o q k1 k2
theorem Ext.free {H H' : Hp} {b : Addr} (e : Ext TT H H') (h : H' b = none) : H b = none ∨ ∃ n, H b = some (PotO n b) ∨ ∃ ps, H b = some (.tbl ps) := by
  cases q : H b with
  | none => exact .inl rfl
  | some o =>
    by_cases h1 : ∃ n, o = PotO n b
    · obtain ⟨n, rfl⟩ := h1
      exact .inr ⟨n, .inl rfl⟩
    · by_cases h2 : ∃ ps, o = .tbl ps
      · obtain ⟨ps, rfl⟩ := h2
        exact .inr ⟨0, .inr ⟨ps, rfl⟩⟩
      · have y := e.1 b o q (fun n z => h1 ⟨n, z⟩) fun ps z => h2 ⟨ps, z⟩
        rw [h] at y
        cases y
end
def Grow (H H' : Hp) : Prop := ∀ b o, H b = some o → H' b = some o
theorem Grow.refl (H : Hp) : Grow H H := fun _ _ e => e
theorem Grow.new {H : Hp} {p : Addr} {o : HO} (h : H p = none) : Grow H (upd H p o) := fun b u e => by
  rw [upd_ne (ne_of_none e h)]
  exact e
theorem Grow.trans {H H1 H2 : Hp} (a : Grow H H1) (b : Grow H1 H2) : Grow H H2 := fun c o e => b c o (a c o e)
theorem Grow.ext {TT : List (Addr × Str)} {H H' : Hp} (a : Grow H H') : Ext TT H H' := .of a
def goodB (d : PyData) : Bool := d.showable && (!d.hasDict || noList d) && decide (d.depth ≤ 40) && decide (d.shown.length ≤ 100000)
def Good (d : PyData) : Prop := goodB d = true
theorem Good.all {d : PyData} (h : Good d) : d.showable = true ∧ (d.hasDict = true → noList d = true) ∧ d.depth ≤ 40 ∧ d.shown.length ≤ sizeLine := by
  unfold Good goodB at h
  simp only [Bool.and_eq_true, decide_eq_true_eq, Bool.or_eq_true, Bool.not_eq_true'] at h
  obtain ⟨⟨⟨h1, h2⟩, h3⟩, h4⟩ := h
  refine ⟨h1, fun z => ?_, h3, Nat.le_trans h4 (by decide)⟩
  rcases h2 with h2 | h2
  · rw [h2] at z
    cases z
  · exact h2
section
variable {K : PySem.W.Frag} {H H' : Hp}
theorem DD.grow {v : V} {d : PyData} (h : DD K H v d) (e : Grow H H') : DD K H' v d := h.mono (e.ext (TT := []))
theorem DDs.grow {v : List V} {d : List PyData} (h : DDs K H v d) (e : Grow H H') : DDs K H' v d := h.mono (e.ext (TT := []))
theorem Grow.sqT {a : Addr} {xs : List V} (e : Grow H H') (h : SqT K H a xs) : SqT K H' a xs := (e.ext (TT := [])).sqT h
theorem Grow.sqL {a : Addr} {xs : List V} (e : Grow H H') (h : SqL K H a xs) : SqL K H' a xs := (e.ext (TT := [])).sqL h
theorem Grow.lst {a : Addr} {xs : List V} (e : Grow H H') (h : H a = some (.lst xs)) : H' a = some (.lst xs) := e _ _ h
theorem Grow.free {b : Addr} (e : Grow H H') (h : H' b = none) : H b = none := by
  cases q : H b with
  | none => rfl
  | some o =>
    rw [e b o q] at h
    cases h
theorem Grow.put {D : Addr} {o : HO} (e : Grow H H') (n : H D = none) : Grow H (upd H' D o) := fun b u q => by
  rw [upd_ne (ne_of_none q n)]
  exact e b u q
end
section
variable {X : Cx}
end
end Aim
namespace Aim
open PySem PySem.Spec PyProof.Rows L2
open LamX (TabB Tabs CodeO GivesTo)
structure HasC (K : PySem.W.Frag) (mg : Str → Option Value) (x : Str) (st : Stmt) (c : Addr) : Prop where
  ex : ∃ (f : Addr) (oc : Value) (od : Option Addr) (kV doc pm : Value) (an : Option Addr) (ct : Value) (osl : Array (Option Value)),
    K.lookup f = some ⟨oc, od, .func (PySem.W.fnOf x x (defArgs st) (defBody st) (defScope st) .none kV doc pm an (.ref c) ct), osl⟩ ∧ PySem.W.codeIn K (.ref c) x = true ∧ PySem.W.keepIn K (.ref f) = true ∧ mg x = some (.ref f)
section
variable {P : Program} {w : World} {K : PySem.W.Frag} {mg : Str → Option Value} {base : Heap} {G : Bool}
theorem df_okC {x : Str} {st : Stmt} {c : Addr} {N ps : List Str} {k : Nat} {sp : Sp} (F : HasC K mg x st c) (S : FnScope N ps (defScope st)) (len : ∀ vs H Q E, sp vs H Q E → vs.length = ps.length)
    (hb : ∀ (kV doc pm : Value) (an : Option Addr) (cdv ct : Value) (us : List Value), us.length = ps.length → bindArgs (PySem.W.fnOf x x (defArgs st) (defBody st) (defScope st) .none kV doc pm an cdv ct) ⟨us, []⟩ = pure (ps.zip us))
    (body : ∀ (f : Addr) (A : Around) (outer : List Env) (s : Shared) (H : Hp) (vs : List V) (Q : VK) (E : XK), Room k (A.deeper (envOfC x (defScope st) s.heap.objs.size f (.ref c))) → (G = true → A.guards = some []) → sp vs H Q E →
      ∃ t, PSs (cxOf (L2.CX P w) P w K mg base N x (defScope st) f (.ref c) A outer s H E).nox (defBody st) t ∧ t { nx := fun _ H' => Q .non H', rt := Q } (start N vs) H) : Df P w K mg base G (k + 1) x sp := by
  obtain ⟨f, oc, od, kV, doc, pm, an, ct, osl, lk, hcd, kp, hm⟩ := F.ex
  refine ⟨f, _, ps, ⟨len, fun hr hg e0 b r q => LamX.run_ofS lk hcd S hr e0 b r (len _ _ _ _ q) fun hr' => ?_⟩, hm, kp, .all (hb _ _ _ _ _ _)⟩
  obtain ⟨t, h, z⟩ := body _ _ _ _ _ _ _ _ hr' hg q
  exact ⟨t, h.nox, z⟩
end
section
variable {P : Program} {w : World} {K : PySem.W.Frag} {mg : Str → Option Value} {base : Heap} {G : Bool}
theorem has_mk {h : Heap} (X : K.In h) (G : h.Ns mainGlobals mg) {x : Str} {st : Stmt} {f : Addr} {oc kV doc pm cd ct : Value} {od an : Option Addr} {osl : Array (Option Value)} (a : PySem.W.nsIn K mainGlobals x = some (some (.ref f)))
    (l : K.lookup f = some ⟨oc, od, .func (PySem.W.fnOf x x (defArgs st) (defBody st) (defScope st) .none kV doc pm an cd ct), osl⟩) (c : PySem.W.codeIn K cd x = true) (k : PySem.W.keepIn K (.ref f) = true) : Has K mg x st :=
  ⟨f, _, fun_mk (st := st) l c k, PySem.W.mg_of X G a⟩
theorem hasC_mk {h : Heap} (X : K.In h) (G : h.Ns mainGlobals mg) {x : Str} {st : Stmt} {f cd : Addr} {oc kV doc pm ct : Value} {od an : Option Addr} {osl : Array (Option Value)} (a : PySem.W.nsIn K mainGlobals x = some (some (.ref f)))
    (l : K.lookup f = some ⟨oc, od, .func (PySem.W.fnOf x x (defArgs st) (defBody st) (defScope st) .none kV doc pm an (.ref cd) ct), osl⟩) (c : PySem.W.codeIn K (.ref cd) x = true) (k : PySem.W.keepIn K (.ref f) = true) : HasC K mg x st cd :=
  ⟨f, oc, od, kV, doc, pm, an, ct, osl, l, c, k, PySem.W.mg_of X G a⟩
end
def IsCaught (en : Str) (st : Stmt) : Prop := ∃ (j : Nat) (p1 p2 p3 p4 p5 p6 p7 p8 p9 p10 p11 p12 p13 p14 : Pos), defBody st =
  [.Assign [.Name "_law_caught_here" p1] (.Constant .none j p2) p3, .Try [.Expr (.Call (.Name "_law_ask" p4) [] [] p5) p6] [.ExceptHandler (some (.Name "AimError" p7)) (some en) [.Assign [.Name "_law_caught_here" p8] (.Name en p9) p10] p11] [] [] p12, .Return (some (.Name "_law_caught_here" p13)) p14]
structure CauN (K : PySem.W.Frag) (mg : Str → Option Value) (st : Stmt) (AE : Addr) (en : Str) : Prop where
  nm : en = "error" ∨ en = "_law_error"
  has : Has K mg "_law_caught" st
  txt : IsCaught en st
  sc : FnScope ["_law_ask", "_law_caught_here", en] ["_law_ask"] (defScope st)
  s1 : (defScope st).names.lookup ("AimError" : Str) = some .globalImplicit
  s2 : (defScope st).names.lookup ("_law_caught_here" : Str) = some .local
  s3 : (defScope st).names.lookup en = some .local
  s4 : (defScope st).names.lookup ("_law_ask" : Str) = some .local
  hb : ∀ (kV doc pm : Value) (an : Option Addr) (cdv ct : Value) (us : List Value), us.length = 1 → bindArgs (PySem.W.fnOf "_law_caught" "_law_caught" (defArgs st) (defBody st) (defScope st) .none kV doc pm an cdv ct) ⟨us, []⟩ = pure ((["_law_ask"] : List Str).zip us)
  m : mg "AimError" = some (.ref AE)
def CauT (K : PySem.W.Frag) (mg : Str → Option Value) (st : Stmt) (AE : Addr) : Prop := ∃ en, CauN K mg st AE en
section
variable {X : Cx}
theorem pe_caught {T : List (Addr × Str)} {st : Stmt} {AE c Pt : Addr} {k : Nat} {params : Arguments} {body : Expr} {scope : Scope} {t : XK → TE} {p lpos pos : Pos} (U : CauT X.K X.mg st AE) (hg : Gl X "_law_caught")
    (TB : TabB X.base X.mg c Pt) (hcode : X.env.code = .ref c) (hmT : (Pt, X.env.qual ++ "<lambda>") ∈ T) (hu : ∀ p ∈ T, p.1 = Pt → p.2 = X.env.qual ++ "<lambda>") (hr : Room (k + 2) X.A) (L : LamX.LamS X.env.scope scope) (hdef : defaultsOf params X.env = ([], []))
    (hbind : ∀ (q : Str) (cl : List (Str × Addr)) (pm cv ctv : Value), bindArgs (PySem.W.kla_fn "<lambda>" q params body scope cl pm cv ctv) ⟨[], []⟩ = pure [])
    (hbody : ∀ (A : Around) (outer : List Env) (s : Shared) (H : Hp) (E : XK) (f c' : Addr), Room k (A.deeper (LamX.lamEnv X scope s.heap.objs.size f c')) → PE (LamX.lamCx X A outer s H E scope f c') body (t E)) :
    PE X (.Call (.Name "_law_caught" p) [.Lambda params body scope lpos] [] pos) (LamX.tLam T (TTc X.K AE) t) := by
  obtain ⟨en, U⟩ := U
  obtain ⟨g, fd, F, hm⟩ := U.has.ex
  obtain ⟨oc, od, kV, doc, pm, an, cdv, ct, osl, e1, lk, hcd⟩ := id F.ex
  subst e1
  have hbi := F.binds (ps := ["_law_ask"]) U.hb
  obtain ⟨j, p1, p2, p3, p4, p5, p6, p7, p8, p9, p10, p11, p12, p13, p14, hbd⟩ := U.txt
  rw [hbd] at lk hbi
  have hen := U.nm
  rcases hen with rfl | rfl
  · exact LamX.pe_lamcall hg hm F.kp lk hcd hbi U.sc rfl (.inl U.s4) (caught_gives U.s1 U.m (by decide) U.s2 U.s3 (by decide +kernel) (by decide) (by decide) (by decide) (by decide)) TB hcode hmT hu hr L hdef hbind hbody
  · exact LamX.pe_lamcall hg hm F.kp lk hcd hbi U.sc rfl (.inl U.s4) (caught_gives U.s1 U.m (by decide) U.s2 U.s3 (by decide +kernel) (by decide) (by decide) (by decide) (by decide)) TB hcode hmT hu hr L hdef hbind hbody
end
end Aim
namespace Aim
open PySem PySem.Spec PyProof.Rows L2
section
variable {P : Program} {K : PySem.W.Frag} {mg : Str → Option Value}
theorem aimI_mk {st : Stmt} {f D : Addr} (txt : IsInit st) {oc kV doc pm ct ccl cl : Value} {od an cdd cld : Option Addr} {osl ccs csl : Array (Option Value)} {cc cda : Addr} {vs : Array Value} {file : Str} {tf : Tok} {cdD : ClassData}
    (l : K.lookup f = some ⟨oc, od, .func (PySem.W.fnX "__init__" "AimError.__init__" (defArgs st) (defBody st) (defScope st) [("__class__", cc)] .none kV doc pm an (.ref cda) ct), osl⟩) (c : PySem.W.codeIn K (.ref cda) "AimError.__init__" = true)
    (lc : K.lookup cda = some ⟨ccl, cdd, .fields vs, ccs⟩) (e1 : vs[2]? = some (.str file tf)) (e2 : ((P.main.file : Str) == file) = true) (lcc : K.lookup cc = some ⟨cl, cld, .cell (some (.ref D)), csl⟩) (hD : PySem.W.clsIn K D = some cdD)
    (tI : PySem.W.typeIn K (.ref f) = some (.type "function")) (top : (P.main.scope.names.lookup ("super" : Str)).isSome = false) (third : PySem.W.nsIn K cStatics "thirdparty.any" = some none) : AimI P K st f D :=
  ⟨txt, ⟨oc, od, an, osl, kV, doc, pm, ct, cc, cda, ccl, cl, cdd, cld, ccs, csl, vs, file, tf, cdD, l, c, lc, e1, e2, lcc, hD⟩, tI, top, third⟩
theorem aimC_mk {f D C : Addr} {nm qn : Str} {N : Addr} {bs bm : List Value} {sn sub ab col dd k0 k1 k2 k3 k5} (l : K.lookup C = some (excClassObj nm qn C N bs bm true sn sub ab col dd k0 k1 k2 k3 k5 "ValueError.__new__")) (hbm : PySem.HandSPX.refsVE bm = true)
    (sa : PySem.W.findIn K (.ref C) "__setattr__" = some (some (.builtin "object.__setattr__"))) (exC : PySem.W.subIn K (.ref C) (.type "BaseException") = some true) (tyC : PySem.W.typeIn K (.ref C) = some (.type "type")) (kC : PySem.W.keepIn K (.ref C) = true)
    (ga : PySem.W.findIn K (.ref C) "__getattribute__" = some (some (.builtin "BaseException.__getattribute__"))) (gg : PySem.W.findIn K (.ref C) "__getattr__" = some none) (hdC : PySem.W.hasDictIn K C = true)
    (sb : PySem.W.mroIn K C (.ref D) = some true) (sup : PySem.W.ks_superIn K C D "__init__" = some (some (.builtin "ValueError.__init__"))) (ve : PySem.W.subIn K (.ref C) (.type "ValueError") = some true) (nv : PySem.W.findIn K (.ref C) "value" = some none)
    (ini : PySem.W.findIn K (.ref C) "__init__" = some (some (.ref f))) (own : PySem.W.findIn K (.ref C) "__class__" = some (some (.builtin "object.__class__"))) (get : PySem.W.specialIn K (.builtin "object.__class__") "__get__" = some (some (.builtin "getset_descriptor.__get__")))
    (tak : PySem.W.takesIn K (.builtin "object.__class__") = some true) (obj : PySem.W.mroIn K C (.type "object") = some true) : AimC K f D C :=
  { cls := ⟨_, _, _, _, _, _, _, _, _, _, _, _, _, _, _, l, hbm⟩, sa := sa, exC := exC, tyC := tyC, kC := kC, ga := ga, gg := gg, hdC := hdC, sub := sb, sup := sup, ve := ve, nv := nv, ini := ini, own := own, get := get, tak := tak, obj := obj }
end
end Aim
namespace Aim
open PySem PySem.Spec PyProof.Rows L2
def SqN (K : PySem.W.Frag) (H : Hp) (a : Addr) (xs : List V) : Prop := (∃ o : Obj, H a = some (.frz o (.tup xs)) ∧ o.dict = none) ∨
  ∃ (o : Obj) (its : Array Value) (n : Nat), K.lookup a = some o ∧ o.cls = .type "tuple" ∧ o.dict = none ∧ o.data = .seq its n ∧ its.size ≤ sizeLine ∧ Vals xs its.toList
theorem SqN.sqT {K : PySem.W.Frag} {H : Hp} {a : Addr} {xs : List V} (h : SqN K H a xs) : SqT K H a xs := by
  rcases h with ⟨o, h, _⟩ | ⟨o, its, n, h1, h2, _, h3, h4, h5⟩
  · exact .inl (.inr ⟨o, h⟩)
  · exact .inr ⟨o, its, n, h1, h2, h3, h4, h5⟩
def NewT (H : Hp) (Q : VK) (xs : List V) : Prop := ∀ (p : Addr) (o : Obj), H p = none → o.dict = none → Q (.ref p) (upd H p (.frz o (.tup xs)))
theorem SqN.is {X : Cx} {pins : List (Addr × Obj)} {σ : L2.St} {H : Hp} {s : Shared} {a : Addr} {xs : List V} (I : Inv X pins σ H s) (h : SqN X.K H a xs) : s.TypeIs (.ref a) "tuple" ∧ ∀ b, Value.ref a = .ref b → ∃ ob, s.heap.get? b = some ob ∧ ob.dict = none := by
  obtain ⟨its, r, pl, hz⟩ := I.tuple h.sqT
  obtain ⟨ob, ho, hc, n, hd⟩ := pl
  refine ⟨⟨ob, ho, hc⟩, fun b e => ?_⟩
  cases e
  rcases h with ⟨o, h, hn⟩ | ⟨o, its', n', hk, _, hn, _⟩
  · obtain ⟨e, _⟩ := (show ObjOk X.prog X.w H s.heap a (.frz o (.tup xs)) from I.hok a _ h)
    exact ⟨o, e, hn⟩
  · exact ⟨o, I.kIn _ o hk, hn⟩
section
variable {X : Cx} {e o : Expr} {es : List Expr} {pos cpos apos : Pos} {t : TA} {ta tb te to : TE}
theorem laidN {pins : List (Addr × Obj)} {σ : L2.St} {H : Hp} {s : Shared} {Q : VK} {xs : List V} {its : List Value} (I : Inv X pins σ H s) (z : xs.length ≤ sizeLine) (r : Vals xs its) (q : NewT H Q xs) : EP X pins σ Q (.ref s.heap.objs.size) { s with heap := s.heap.push { cls := .type "tuple", data := .seq its.toArray } } :=
  ⟨.ref s.heap.objs.size, upd H s.heap.objs.size (.frz { cls := .type "tuple", data := .seq its.toArray } (.tup xs)), I.laid (t' := s.toks) (fun b u e => Heap.get?_push_of_some _ e) (Nat.le_refl _) ⟨Heap.get?_push_size _ rfl, z, its, r, IsTup.new _ _⟩, rfl, q _ _ (I.hok.fresh (Nat.le_refl _)) rfl⟩
def tTupN (t : TA) : TE := fun σ H Q => t σ H fun xs H1 => xs.length ≤ sizeLine ∧ NewT H1 Q xs
theorem pe_tupN {x1} (h : PA X es t) : PE X (.Tuple es x1 pos) (tTupN t) := by
  refine ⟨fun pins s σ H Q I hq => ?_⟩
  refine wpAny_Tuple_spliced (thn (h.run pos pins s σ H _ I hq) fun us s1 ⟨xs, H1, I1, r, z, q⟩ => ⟨by rw [← r.length]; exact z, ?_⟩)
  exact laidN I1 z r q
def rCatN (K : PySem.W.Frag) : R2 := fun x y H Q => ∃ a b xs ys, x = .ref a ∧ y = .ref b ∧ SqT K H a xs ∧ SqT K H b ys ∧ xs.length + ys.length ≤ sizeLine ∧
  (xs = [] → Q (.ref b) H) ∧ (xs ≠ [] → ys = [] → Q (.ref a) H) ∧ (xs ≠ [] → ys ≠ [] → NewT H Q (xs ++ ys))
theorem op_catN : OpR X (binaryOp .Add) (rCatN X.K) := by
  intro pins s σ H x y v u Q I rx ry h
  obtain ⟨a, b, xs, ys, rfl, rfl, ha, hb, hz, q0, q1, q2⟩ := h
  by_cases hx : xs = []
  · exact op_catA pins s σ H _ _ v u Q I rx ry ⟨a, b, xs, ys, rfl, rfl, ha, hb, hz, q0, q1, fun z => absurd hx z⟩
  · cases rx
    cases ry
    obtain ⟨its, r1, p1, _⟩ := I.tuple ha
    obtain ⟨its2, r2, p2, _⟩ := I.tuple hb
    refine HT.cat_tup p1 p2 (fun z => hx (r1.nil_iff.mp z)) (fun z => ⟨.ref a, H, I, rfl, q1 hx (r2.nil_iff.mp z)⟩) (fun z => ?_) (by rw [← r1.length, ← r2.length]; exact hz)
    exact laidN I (by rw [List.length_append]; exact hz) (r1.append r2) (q2 hx fun w => z (r2.nil_iff.mpr w))
def rSlN (K : PySem.W.Frag) : V → Option Int → Option Int → Hp → VK → Prop := fun x lo hi H Q => ∃ a xs, x = .ref a ∧ SqT K H a xs ∧
  (HT.sIx xs.length 0 lo = 0 ∧ HT.sIx xs.length xs.length hi = xs.length → Q (.ref a) H) ∧ (¬ (HT.sIx xs.length 0 lo = 0 ∧ HT.sIx xs.length xs.length hi = xs.length) → NewT H Q (cutV xs lo hi))
theorem sl_tupN : SlR X (rSlN X.K) := by
  intro pins s σ H x v vl vu lo hi sl Q I rx hs pl pu h
  obtain ⟨a, xs, rfl, hx, q1, q2⟩ := h
  by_cases hw : HT.sIx xs.length 0 lo = 0 ∧ HT.sIx xs.length xs.length hi = xs.length
  · exact sl_tupA pins s σ H _ v vl vu lo hi sl Q I rx hs pl pu ⟨a, xs, rfl, hx, q1, fun z => absurd hw z⟩
  · cases rx
    obtain ⟨its, r, ht, hz⟩ := I.tuple hx
    have hlen : its.toArray.size = xs.length := by rw [List.size_toArray]; exact r.length.symm
    refine ⟨"tuple", _, PyProof.Rows.slot_tuple_getitem.lookup, ht.typeIs, ?_⟩
    refine HT.getItem_tuple_cut ht hs pl pu (by rw [hlen]; exact hw) ?_ (by rw [hlen]; exact hz)
    rw [hlen]
    exact laidN I (Nat.le_trans (cutV_length xs lo hi) hz) ((r.drop (HT.sIx xs.length 0 lo)).take (HT.sIx xs.length xs.length hi - HT.sIx xs.length 0 lo)) (q2 hw)
theorem call_tupleN : CallR X (.type "tuple") (fun xs H Q => ∃ p ys, xs = [.ref p] ∧ ((SqL X.K H p ys ∧ NewT H Q ys) ∨ (SqT X.K H p ys ∧ Q (.ref p) H))) := by
  intro pins s σ H xs us Q I r h
  obtain ⟨p, ys, rfl, h⟩ := h
  obtain ⟨u, rfl, rx⟩ := vals1 r
  cases rx
  rcases h with ⟨hq, q⟩ | ⟨hq, q⟩
  · obtain ⟨its, r', pl, hz⟩ := I.list hq
    have hlen := r'.length
    refine call_tuple_list pl.isList (fun h' kp => ?_) (by simp only [List.size_toArray] <;> omega)
    have I1 : Inv X pins σ H { s with heap := h' } := I.kept (t' := s.toks) kp
    have I2 : Inv X pins σ (upd H h'.objs.size (.frz { cls := .type "tuple", data := .seq its.toArray } (.tup ys))) { s with heap := h'.push { cls := .type "tuple", data := .seq its.toArray } } :=
      I1.laid (t' := s.toks) (fun b o e => Heap.get?_push_of_some _ e) (Nat.le_refl _) (show ObjOk X.prog X.w _ _ _ (.frz _ (.tup ys)) from ⟨Heap.get?_push_size _ rfl, hz, its, r', IsTup.new _ _⟩)
    exact ⟨.ref h'.objs.size, _, I2, rfl, q _ _ (I1.hok.fresh (Nat.le_refl _)) rfl⟩
  · obtain ⟨its, r', pl, hz⟩ := I.tuple hq
    exact call_tuple_same pl ⟨.ref p, H, I, rfl, q⟩
def tBMN (K : PySem.W.Frag) (r : V → List V → Hp → VK → Prop) (to : TE) (t : TA) : TE := fun σ H Q => to σ H fun x H1 => (∃ p xs, x = .ref p ∧ SqN K H1 p xs) ∧ t σ H1 fun xs H2 => r x xs H2 Q
theorem pe_bmN {name : Str} {id : String} {r : V → List V → Hp → VK → Prop} (slot : Slot "tuple" name id) (hty : typeOf (.builtin id) = pure (.type "method_descriptor")) (hm : MtR X id r) (ho : PE X o to) (ha : PA X (e :: es) t)
    (hbase : attributeBase o name X.env (eval o X.env) = eval o X.env := by rfl)
    (hfew : ((backTo cpos (starEach (e :: es) X.env)).all (fun x => !x.1) && (backToKw cpos (keywordEach [] X.env)).all (fun x => x.1.isSome)
      && decide ((e :: es).length + ([] : List Keyword).length + (if ([] : List Keyword).isEmpty then 0 else 1) < 30)) = true := by rfl)
    (hline : (apos.endLine == cpos.line) = true := by rfl) (hs : starEach (e :: es) X.env = (false, eval e X.env) :: starEach es X.env := by rfl) (hplain : (backTo cpos (starEach es X.env)).any (·.1) = false := by rfl) :
    PE X (.Call (.Attribute o name apos) (e :: es) [] cpos) (tBMN X.K r to t) := by
  refine ⟨fun pins s σ H Q I h => ?_⟩
  refine wpAny_Call_method_late hbase hfew hline rfl (thn (ho.run pins s σ H _ I h) fun v s1 hq90 => ?_)
  obtain ⟨x, H1, I1, r1, ty, q1⟩ := hq90
  obtain ⟨p, xs, ex, hq⟩ := ty
  subst ex
  obtain rfl : v = Value.ref p := r1
  obtain ⟨h1, h2⟩ := hq.is I1
  refine ⟨"tuple", id, PySem.F.plainAttrs_tuple, slot, hty, h1, h2, ?_⟩
  have hA := ha.run cpos pins s1 σ H1 _ I1 q1
  rw [hs] at hA ⊢
  refine Calls.callWith_builtin (by show (false || (backTo cpos (starEach es X.env)).any (·.1)) = false; rw [hplain] <;> rfl) (Calls.evalArgs_plain ?_)
  exact thn hA fun us s2 ⟨vs, H2, I2, r2, q2⟩ => hm pins s2 σ H2 (.ref p) vs (.ref p) us Q I2 rfl r2 q2
end
section
open RZ
def ItzN (K : PySem.W.Frag) (a b : Addr) : It :=
  ⟨fun i H => ∃ (xs ys : List V) (x y : V), SqL K H a xs ∧ SqL K H b ys ∧ xs[i]? = some x ∧ ys[i]? = some y,
    fun i H v H' => ∃ (T : Addr) (o : Obj) (x y : V), v = .ref T ∧ H T = none ∧ o.dict = none ∧ H' = upd H T (.frz o (.tup [x, y])) ∧ (∀ xs, SqL K H a xs → xs[i]? = some x) ∧ ∀ ys, SqL K H b ys → ys[i]? = some y,
    fun i H => ∃ xs ys : List V, SqL K H a xs ∧ SqL K H b ys ∧ (xs.length ≤ i ∨ ys.length ≤ i)⟩
theorem turn_zipN {P : Program} {w : World} {K : PySem.W.Frag} {elts : List Expr} {kk : Nat} {tpos : Pos} {a b z TI TO i1 i2 : Addr} (D : ZipApart z TI TO i1 i2 a b) :
    Turn P w K (.Tuple elts kk tpos) (ItzN K a b) [z, TI, TO, i1, i2] z (fun i h => IsZip h z TI TO .none ∧ IsPair h TI (.ref i1) (.ref i2) ∧ (∃ x y, IsPair h TO x y) ∧ h.IsListIter i1 a i ∧ h.IsListIter i2 b i) where
  mem := by simp
  obj := fun i h st c hc => by
    obtain ⟨hz, hTI, ⟨x, y, hTO⟩, ⟨o1, e1, _, d1⟩, ⟨o2, e2, _, d2⟩⟩ := st
    have e' : c = z ∨ c = TI ∨ c = TO ∨ c = i1 ∨ c = i2 := by simpa using hc
    rcases e' with q | q | q | q | q
    · rw [q]; exact ⟨_, hz, fun v q => nomatch q⟩
    · rw [q]; exact ⟨_, hTI, fun v q => nomatch q⟩
    · rw [q]; exact ⟨_, hTO, fun v q => nomatch q⟩
    · rw [q]; exact ⟨o1, e1, fun v q => by rw [d1] at q; cases q⟩
    · rw [q]; exact ⟨o2, e2, fun v q => by rw [d2] at q; cases q⟩
  keep := fun i h h' st k => by
    obtain ⟨hz, hTI, ⟨x, y, hTO⟩, h1, h2⟩ := st
    exact ⟨k z (by simp) _ hz, k TI (by simp) _ hTI, ⟨x, y, k TO (by simp) _ hTO⟩, h1.at fun o q => k i1 (by simp) o q, h2.at fun o q => k i2 (by simp) o q⟩
  item := by
    intro X hP hw hK hc i pins s σ H E I hf st hg
    subst hP hw hK
    obtain ⟨hz, hTI, ⟨x0, y0, hTO⟩, h1, h2⟩ := st
    obtain ⟨xs, ys, x, y, hqx, hqy, hx, hy⟩ := hg
    obtain ⟨its, rv, p, _⟩ := I.list hqx
    obtain ⟨its2, rv2, p2, _⟩ := I.list hqy
    obtain ⟨u, hu, ru⟩ := rv.get hx
    obtain ⟨u2, hu2, ru2⟩ := rv2.get hy
    have hzl : z < s.heap.objs.size := Heap.lt_size hz
    refine wpAny_pyNext_zip_item D hz hTI hTO h1 h2 p.isList p2.isList (x := u) (y := u2) (by simpa using hu) (by simpa using hu2) fun h' z' TO' h1' h2' hT hsz hk => ?_
    refine ⟨_, rfl, wpAny_letOwnedTupleGo_zip (s := { s with heap := h' }) z' fun h'' z'' sb => ?_⟩
    have hT2 : h''.get? s.heap.objs.size = some { cls := .type "tuple", data := .seq #[u, u2] } := (sb.2 _ (Nat.ne_of_gt hzl)).trans hT
    have new : ObjOk X.prog X.w (upd H s.heap.objs.size (.frz { cls := .type "tuple", data := .seq #[u, u2] } (.tup [x, y]))) h'' s.heap.objs.size (.frz { cls := .type "tuple", data := .seq #[u, u2] } (.tup [x, y])) :=
      ⟨hT2, by show 2 ≤ sizeLine; decide, [u, u2], .cons ru (.cons ru2 .nil), ⟨_, hT2, rfl, _, rfl⟩⟩
    have I1 : Inv X pins σ (upd H s.heap.objs.size (.frz { cls := .type "tuple", data := .seq #[u, u2] } (.tup [x, y]))) { s with heap := h'' } :=
      I.turnedNew (t' := s.toks) (ch := [z, TI, TO, i1, i2]) (fun c o hb q => (sb.2 c (fun q' => hb (by simp [q']))).trans (hk c o (fun q' => hb (by simp [q'])) (fun q' => hb (by simp [q'])) (fun q' => hb (by simp [q'])) (fun q' => hb (by simp [q'])) q)) hf (Nat.le_refl _) new
    refine ⟨.ref s.heap.objs.size, _, I1, rfl, ⟨_, _, x, y, rfl, I.hok.fresh (Nat.le_refl _), rfl, rfl, fun l hl => by rw [I.list_inj hl hqx]; exact hx, fun l hl => by rw [I.list_inj hl hqy]; exact hy⟩, ⟨z'', ?_, ⟨u, u2, ?_⟩, ?_, ?_⟩, fun c hcm => ?_⟩
    · exact (sb.2 _ D.TIz).trans (hk _ _ D.TIz D.TITO D.TIi1 D.TIi2 hTI)
    · exact (sb.2 _ D.TOz).trans TO'
    · exact h1'.at fun o q => (sb.2 _ D.i1z).trans q
    · exact h2'.at fun o q => (sb.2 _ D.i2z).trans q
    · have hlt : c < s.heap.objs.size := by
        have e' : c = z ∨ c = TI ∨ c = TO ∨ c = i1 ∨ c = i2 := by simpa using hcm
        rcases e' with q | q | q | q | q
        · rw [q]; exact hzl
        · rw [q]; exact Heap.lt_size hTI
        · rw [q]; exact Heap.lt_size hTO
        · rw [q]; obtain ⟨_, e1, _⟩ := h1; exact Heap.lt_size e1
        · rw [q]; obtain ⟨_, e2, _⟩ := h2; exact Heap.lt_size e2
      rw [upd_ne (Nat.ne_of_lt hlt)]
      exact (hf c hcm).1
  done := by
    intro X hP hw hK hc i pins s σ H E I hf st hg
    subst hP hw hK
    obtain ⟨hz, hTI, ⟨x0, y0, hTO⟩, h1, h2⟩ := st
    obtain ⟨xs, ys, hqx, hqy, hend⟩ := hg
    obtain ⟨its, rv, p, _⟩ := I.list hqx
    obtain ⟨its2, rv2, p2, _⟩ := I.list hqy
    have l1 := rv.length
    have l2 := rv2.length
    have he : its.toArray[i]? = none ∨ its2.toArray[i]? = none := by
      rcases hend with q | q
      · exact .inl (by simp; omega)
      · exact .inr (by simp; omega)
    exact wpAny_pyNext_zip_end (I.ok.hd hc) D hz hTI hTO h1 h2 p.isList p2.isList he fun h' hk => ⟨rfl, I.turnedL (t' := s.toks) (ch := [z, TI, TO, i1, i2]) (fun c o hb q =>
      hk c o (fun q' => hb (by simp [q'])) (fun q' => hb (by simp [q'])) (fun q' => hb (by simp [q'])) (fun q' => hb (by simp [q'])) q) hf⟩
  self := fun A i s Q E st h => wpAny_pyIter_zip st.1 h
def ItzTN (K : PySem.W.Frag) (a b : Addr) : It :=
  ⟨fun i H => ∃ (xs ys : List V) (x y : V), SqT K H a xs ∧ SqT K H b ys ∧ xs[i]? = some x ∧ ys[i]? = some y,
    fun i H v H' => ∃ (T : Addr) (o : Obj) (x y : V), v = .ref T ∧ H T = none ∧ o.dict = none ∧ H' = upd H T (.frz o (.tup [x, y])) ∧ (∀ xs, SqT K H a xs → xs[i]? = some x) ∧ ∀ ys, SqT K H b ys → ys[i]? = some y,
    fun i H => ∃ xs ys : List V, SqT K H a xs ∧ SqT K H b ys ∧ (xs.length ≤ i ∨ ys.length ≤ i)⟩
theorem turn_zipTN {P : Program} {w : World} {K : PySem.W.Frag} {elts : List Expr} {kk : Nat} {tpos : Pos} {a b z TI TO i1 i2 : Addr} (D : ZipApart z TI TO i1 i2 a b) :
    Turn P w K (.Tuple elts kk tpos) (ItzTN K a b) [z, TI, TO, i1, i2] z (fun i h => IsZip h z TI TO .none ∧ IsPair h TI (.ref i1) (.ref i2) ∧ (∃ x y, IsPair h TO x y) ∧ h.IsTupleIter i1 a i ∧ h.IsTupleIter i2 b i) where
  mem := by simp
  obj := fun i h st c hc => by
    obtain ⟨hz, hTI, ⟨x, y, hTO⟩, ⟨o1, e1, _, d1⟩, ⟨o2, e2, _, d2⟩⟩ := st
    have e' : c = z ∨ c = TI ∨ c = TO ∨ c = i1 ∨ c = i2 := by simpa using hc
    rcases e' with q | q | q | q | q
    · rw [q]; exact ⟨_, hz, fun v q => nomatch q⟩
    · rw [q]; exact ⟨_, hTI, fun v q => nomatch q⟩
    · rw [q]; exact ⟨_, hTO, fun v q => nomatch q⟩
    · rw [q]; exact ⟨o1, e1, fun v q => by rw [d1] at q; cases q⟩
    · rw [q]; exact ⟨o2, e2, fun v q => by rw [d2] at q; cases q⟩
  keep := fun i h h' st k => by
    obtain ⟨hz, hTI, ⟨x, y, hTO⟩, h1, h2⟩ := st
    exact ⟨k z (by simp) _ hz, k TI (by simp) _ hTI, ⟨x, y, k TO (by simp) _ hTO⟩, h1.at fun o q => k i1 (by simp) o q, h2.at fun o q => k i2 (by simp) o q⟩
  item := by
    intro X hP hw hK hc i pins s σ H E I hf st hg
    subst hP hw hK
    obtain ⟨hz, hTI, ⟨x0, y0, hTO⟩, h1, h2⟩ := st
    obtain ⟨xs, ys, x, y, hqx, hqy, hx, hy⟩ := hg
    obtain ⟨its, rv, p, _⟩ := I.tuple hqx
    obtain ⟨its2, rv2, p2, _⟩ := I.tuple hqy
    obtain ⟨u, hu, ru⟩ := rv.get hx
    obtain ⟨u2, hu2, ru2⟩ := rv2.get hy
    have hzl : z < s.heap.objs.size := Heap.lt_size hz
    refine pyNext_zipT_item D hz hTI hTO h1 h2 p p2 (x := u) (y := u2) (by simpa using hu) (by simpa using hu2) fun h' z' TO' h1' h2' hT hsz hk => ?_
    refine ⟨_, rfl, wpAny_letOwnedTupleGo_zip (s := { s with heap := h' }) z' fun h'' z'' sb => ?_⟩
    have hT2 : h''.get? s.heap.objs.size = some { cls := .type "tuple", data := .seq #[u, u2] } := (sb.2 _ (Nat.ne_of_gt hzl)).trans hT
    have new : ObjOk X.prog X.w (upd H s.heap.objs.size (.frz { cls := .type "tuple", data := .seq #[u, u2] } (.tup [x, y]))) h'' s.heap.objs.size (.frz { cls := .type "tuple", data := .seq #[u, u2] } (.tup [x, y])) :=
      ⟨hT2, by show 2 ≤ sizeLine; decide, [u, u2], .cons ru (.cons ru2 .nil), ⟨_, hT2, rfl, _, rfl⟩⟩
    have I1 : Inv X pins σ (upd H s.heap.objs.size (.frz { cls := .type "tuple", data := .seq #[u, u2] } (.tup [x, y]))) { s with heap := h'' } :=
      I.turnedNew (t' := s.toks) (ch := [z, TI, TO, i1, i2]) (fun c o hb q => (sb.2 c (fun q' => hb (by simp [q']))).trans (hk c o (fun q' => hb (by simp [q'])) (fun q' => hb (by simp [q'])) (fun q' => hb (by simp [q'])) (fun q' => hb (by simp [q'])) q)) hf (Nat.le_refl _) new
    refine ⟨.ref s.heap.objs.size, _, I1, rfl, ⟨_, _, x, y, rfl, I.hok.fresh (Nat.le_refl _), rfl, rfl, fun l hl => by rw [I.tuple_inj hl hqx]; exact hx, fun l hl => by rw [I.tuple_inj hl hqy]; exact hy⟩, ⟨z'', ?_, ⟨u, u2, ?_⟩, ?_, ?_⟩, fun c hcm => ?_⟩
    · exact (sb.2 _ D.TIz).trans (hk _ _ D.TIz D.TITO D.TIi1 D.TIi2 hTI)
    · exact (sb.2 _ D.TOz).trans TO'
    · exact h1'.at fun o q => (sb.2 _ D.i1z).trans q
    · exact h2'.at fun o q => (sb.2 _ D.i2z).trans q
    · have hlt : c < s.heap.objs.size := by
        have e' : c = z ∨ c = TI ∨ c = TO ∨ c = i1 ∨ c = i2 := by simpa using hcm
        rcases e' with q | q | q | q | q
        · rw [q]; exact hzl
        · rw [q]; exact Heap.lt_size hTI
        · rw [q]; exact Heap.lt_size hTO
        · rw [q]; obtain ⟨_, e1, _⟩ := h1; exact Heap.lt_size e1
        · rw [q]; obtain ⟨_, e2, _⟩ := h2; exact Heap.lt_size e2
      rw [upd_ne (Nat.ne_of_lt hlt)]
      exact (hf c hcm).1
  done := by
    intro X hP hw hK hc i pins s σ H E I hf st hg
    subst hP hw hK
    obtain ⟨hz, hTI, ⟨x0, y0, hTO⟩, h1, h2⟩ := st
    obtain ⟨xs, ys, hqx, hqy, hend⟩ := hg
    obtain ⟨its, rv, p, _⟩ := I.tuple hqx
    obtain ⟨its2, rv2, p2, _⟩ := I.tuple hqy
    have l1 := rv.length
    have l2 := rv2.length
    have he : its.toArray[i]? = none ∨ its2.toArray[i]? = none := by
      rcases hend with q | q
      · exact .inl (by simp; omega)
      · exact .inr (by simp; omega)
    exact pyNext_zipT_end (I.ok.hd hc) D hz hTI hTO h1 h2 p p2 he fun h' hk => ⟨rfl, I.turnedL (t' := s.toks) (ch := [z, TI, TO, i1, i2]) (fun c o hb q =>
      hk c o (fun q' => hb (by simp [q'])) (fun q' => hb (by simp [q'])) (fun q' => hb (by simp [q'])) (fun q' => hb (by simp [q'])) q) hf⟩
  self := fun A i s Q E st h => wpAny_pyIter_zip st.1 h
def iZipN (K : PySem.W.Frag) (ta : TA) : TI := fun σ H R => ta σ H fun vs H1 => ∃ a b xs ys, vs = [.ref a, .ref b] ∧ ((SqL K H1 a xs ∧ SqL K H1 b ys ∧ R (ItzN K a b) H1) ∨ (SqT K H1 a xs ∧ SqT K H1 b ys ∧ R (ItzTN K a b) H1))
theorem pi_zipN {X : Cx} {e e2 : Expr} {ta : TA} {p pos tpos : Pos} {elts : List Expr} {kk : Nat} (hg : Gl X "zip") (hm : X.mg "zip" = none) (ha : PA X [e, e2] ta)
    (hs : starEach [e, e2] X.env = (false, eval e X.env) :: starEach [e2] X.env := by rfl) (hpl : (backTo pos (starEach [e2] X.env)).any (·.1) = false := by rfl) :
    PI X (.Tuple elts kk tpos) (.Call (.Name "zip" p) [e, e2] [] pos) (iZipN X.K ta) := by
  refine ⟨fun pins s σ H R I h => ?_⟩
  refine Call_ (ld_blt I hg hm PyProof.Rows.boot_zip (PyProof.Rows.callWith_type1 (thn (ha.run pos pins s σ H _ I h) fun us s1 hq90 => ?_) hs hpl))
  obtain ⟨vs, H1, I1, r1, q1⟩ := hq90
  obtain ⟨a, b, xs, ys, ex, q1⟩ := q1
  subst ex
  cases r1 with
  | cons r rr =>
    cases rr with
    | cons r' rr =>
      cases rr
      cases r
      cases r'
      have fresh5 : ∀ c, c ∈ [s1.heap.objs.size + 4, s1.heap.objs.size + 2, s1.heap.objs.size + 3, s1.heap.objs.size, s1.heap.objs.size + 1] → FpOk X pins H1 c := fun c hcm => by
        have e' : c = s1.heap.objs.size + 4 ∨ c = s1.heap.objs.size + 2 ∨ c = s1.heap.objs.size + 3 ∨ c = s1.heap.objs.size ∨ c = s1.heap.objs.size + 1 := by simpa using hcm
        have hle : s1.heap.objs.size ≤ c := by
          rcases e' with z | z | z | z | z
          · rw [z]; exact Nat.le_add_right _ _
          · rw [z]; exact Nat.le_add_right _ _
          · rw [z]; exact Nat.le_add_right _ _
          · rw [z]; exact Nat.le_refl _
          · rw [z]; exact Nat.le_add_right _ _
        exact I1.fpOk hle (I1.hok.fresh hle)
      rcases q1 with ⟨hqx, hqy, q⟩ | ⟨hqx, hqy, q⟩
      · obtain ⟨its, rv, p1, _⟩ := I1.list hqx
        obtain ⟨its2, rv2, p2, _⟩ := I1.list hqy
        refine call_zip_2 p1.isList p2.isList fun h' hz hTI hTO h1 h2 hsz hk => wpAny_pyIter_zip hz ?_
        have I2 : Inv X pins σ H1 { s1 with heap := h' } := I1.kept (t' := s1.toks) hk
        exact ⟨s1.heap.objs.size + 4, [s1.heap.objs.size + 4, s1.heap.objs.size + 2, s1.heap.objs.size + 3, s1.heap.objs.size, s1.heap.objs.size + 1], _, _, H1, rfl, I2, turn_zipN (PySem.W.ktu_apart s1.heap.objs.size a b p1.lt p2.lt), ⟨hz, hTI, ⟨_, _, hTO⟩, h1, h2⟩, fresh5, q⟩
      · obtain ⟨its, rv, p1, _⟩ := I1.tuple hqx
        obtain ⟨its2, rv2, p2, _⟩ := I1.tuple hqy
        obtain ⟨o1, ho1, _⟩ := id p1
        obtain ⟨o2, ho2, _⟩ := id p2
        refine call_zipT (show s1.heap.IsTuple a its.toArray from p1) (show s1.heap.IsTuple b its2.toArray from p2) fun h' hz hTI hTO h1 h2 hsz hk => wpAny_pyIter_zip hz ?_
        have I2 : Inv X pins σ H1 { s1 with heap := h' } := I1.kept (t' := s1.toks) hk
        exact ⟨s1.heap.objs.size + 4, [s1.heap.objs.size + 4, s1.heap.objs.size + 2, s1.heap.objs.size + 3, s1.heap.objs.size, s1.heap.objs.size + 1], _, _, H1, rfl, I2, turn_zipTN (PySem.W.ktu_apart s1.heap.objs.size a b (Heap.lt_size ho1) (Heap.lt_size ho2)), ⟨hz, hTI, ⟨_, _, hTO⟩, h1, h2⟩, fresh5, q⟩
def YPairN (f g : Nat → Option V) : Nat → Hp → V → Hp → Prop := fun i H v H' => ∃ (T : Addr) (o : Obj) (x y : V), v = .ref T ∧ H T = none ∧ o.dict = none ∧ H' = upd H T (.frz o (.tup [x, y])) ∧ f i = some x ∧ g i = some y
variable {K : PySem.W.Frag}
theorem walk_zipN {a b : Addr} {xs ys : List V} {n : Nat} (hn : n = min xs.length ys.length) : Walk (ItzN K a b) n (fun H => SqL K H a xs ∧ SqL K H b ys) (YPairN (fun i => xs[i]?) (fun i => ys[i]?)) := by
  subst hn
  refine ⟨fun i _ hi q => ?_, fun _ q => ⟨xs, ys, q.1, q.2, by omega⟩, fun i H v H' _ q y => ?_⟩
  · have h1 : i < xs.length := by omega
    have h2 : i < ys.length := by omega
    exact ⟨xs, ys, xs[i], ys[i], q.1, q.2, by simp [h1], by simp [h2]⟩
  · obtain ⟨T, o, x, z, h1, h2, h6, h3, h4, h5⟩ := y
    exact ⟨T, o, x, z, h1, h2, h6, h3, h4 xs q.1, h5 ys q.2⟩
theorem walk_zipTN {a b : Addr} {xs ys : List V} {n : Nat} (h1 : n = xs.length) (h2 : n = ys.length) : Walk (ItzTN K a b) n (fun H => SqT K H a xs ∧ SqT K H b ys) (YPairN (fun i => xs[i]?) (fun i => ys[i]?)) := by
  refine ⟨fun i H hi q => ⟨xs, ys, xs[i]'(by omega), ys[i]'(by omega), q.1, q.2, by simp, by simp⟩, fun H q => ⟨xs, ys, q.1, q.2, .inl (by omega)⟩, fun i H v H' _ q y => ?_⟩
  obtain ⟨T, o, x, z, e1, e2, e6, e3, e4, e5⟩ := y
  exact ⟨T, o, x, z, e1, e2, e6, e3, e4 _ q.1, e5 _ q.2⟩
end
end Aim
namespace Aim
open PySem PySem.Spec PyProof.Rows L2
open LamX (TabB Tabs CodeO)
def uniq : List Str → List Str
  | [] => []
  | x :: r => if x ∈ r then uniq r else x :: uniq r
theorem uniq_mem {x : Str} : ∀ {l : List Str}, x ∈ uniq l ↔ x ∈ l
  | [] => Iff.rfl
  | y :: r => by
    unfold uniq
    split
    · rename_i h
      rw [uniq_mem, List.mem_cons]
      exact ⟨.inr, fun z => z.elim (fun e => e ▸ h) id⟩
    · rw [List.mem_cons, List.mem_cons, uniq_mem]
theorem uniq_nodup : ∀ l : List Str, (uniq l).Nodup
  | [] => List.nodup_nil
  | y :: r => by
    unfold uniq
    split
    · exact uniq_nodup r
    · rename_i h
      exact List.nodup_cons.mpr ⟨fun z => h (uniq_mem.mp z), uniq_nodup r⟩
theorem uniq_le : ∀ l : List Str, (uniq l).length ≤ l.length
  | [] => Nat.le_refl _
  | y :: r => by
    unfold uniq
    have := uniq_le r
    split
    · exact Nat.le_succ_of_le this
    · exact Nat.succ_le_succ this
theorem uniq_len : ∀ l : List Str, (uniq l).length = l.length ↔ l.Nodup
  | [] => by simp [uniq]
  | y :: r => by
    have le := uniq_le r
    have ih := uniq_len r
    unfold uniq
    split
    · rename_i h
      rw [List.length_cons, List.nodup_cons]
      exact ⟨fun z => by omega, fun z => absurd h z.1⟩
    · rename_i h
      rw [List.length_cons, List.length_cons, List.nodup_cons, Nat.add_right_cancel_iff, ih]
      exact ⟨fun z => ⟨h, z⟩, fun z => z.2⟩
theorem nodup_len {l r : List Str} (hl : l.Nodup) (hr : r.Nodup) (h : ∀ x, x ∈ l ↔ x ∈ r) : l.length = r.length := ((List.perm_ext_iff_of_nodup hl hr).mpr h).length_eq
def keyS (e : Int × Value) : Str := match e.2 with
  | .str x _ => x
  | _ => ⟨#[]⟩
def GoodS (w : World) (e : Int × Value) : Prop := ∃ x tk, e.2 = Value.str x tk ∧ e.1 = hashStr w x
def SetS (w : World) (h : Heap) (a : Addr) (S : Str → Bool) (n : Nat) : Prop :=
  ∃ o es ep t, h.get? a = some o ∧ o.ExactSet ∧ o.data = .set es ep t ∧ (∀ e ∈ es.toList, GoodS w e) ∧ (es.toList.map keyS).Nodup ∧ (∀ k, S k = true ↔ k ∈ es.toList.map keyS) ∧
    es.size < scanBound ∧ t.fits es.size = true ∧ es.size = n ∧ Ris t.place.toList ∧ (w.params.followText "set-order" = true ∨ t.led = true)
section
variable {P : Program} {w : World} {h h' : Heap} {a : Addr} {S : Str → Bool} {n : Nat}
theorem SetS.at (R : SetS w h a S n) (k : ∀ o, h.get? a = some o → h'.get? a = some o) : SetS w h' a S n := by
  obtain ⟨o, es, ep, t, ho, r⟩ := R
  exact ⟨o, es, ep, t, k o ho, r⟩
theorem SetS.congr {S' : Str → Bool} (R : SetS w h a S n) (e : ∀ k, S' k = S k) : SetS w h a S' n := by
  have q : S' = S := funext e
  rw [q]; exact R
theorem goodS_elems {l : List (Int × Value)} (g : ∀ e ∈ l, GoodS w e) : ElemsOf (PySem.strKind P w) l := fun e he => by
  obtain ⟨k, tk, h1, h2⟩ := g e he
  exact ⟨⟨k, by rw [h1]; exact PySem.strKind_is P w k tk, h2⟩, by rw [h1] <;> rfl⟩
theorem goodS_is {e : Int × Value} (g : GoodS w e) (k : Str) : (PySem.strKind P w).is k e.2 = true ↔ keyS e = k := by
  obtain ⟨k0, tk, h1, _⟩ := g
  unfold keyS
  rw [h1]
  constructor
  · intro h
    obtain ⟨t, e⟩ := Value.isStrOf_shape (show Value.isStrOf k (Value.str k0 tk) = true from h)
    injection e with e
  · rintro rfl
    exact PySem.strKind_is P w _ _
theorem goodS_mem {l : List (Int × Value)} (g : ∀ e ∈ l, GoodS w e) (k : Str) : k ∈ l.map keyS ↔ ∃ e ∈ l, (PySem.strKind P w).is k e.2 = true := by
  rw [List.mem_map]
  constructor
  · rintro ⟨e, he, q⟩
    exact ⟨e, he, (goodS_is (g e he) k).2 q⟩
  · rintro ⟨e, he, q⟩
    exact ⟨e, he, (goodS_is (g e he) k).1 q⟩
theorem setS_fresh {ho : h.get? a = some { cls := .type "set", dict := none, data := .set #[] 0 (.fresh 0 0 (!w.params.followText "set-order")) }} : SetS w h a (fun _ => false) 0 :=
  ⟨_, #[], 0, _, ho, ⟨rfl, rfl, rfl⟩, rfl, (fun e he => by simp at he), (by simp), (fun k => by simp), (by decide), (by rfl), rfl, List.Pairwise.nil, by
    show _ ∨ (!w.params.followText "set-order") = true
    cases w.params.followText "set-order"
    · exact .inr rfl
    · exact .inl rfl⟩
end
section
variable {P : Program} {w : World} {A : Around} {E : Value → Shared → Prop} {s : Shared} {a : Addr} {S : Str → Bool} {n : Nat}
theorem setS_tail {g : Bool → Sem Unit} (hg : ∀ (b : Bool) (s₁ : Shared) (Q' : Unit → Shared → Prop), Q' () s₁ → wpAny (model P w) A (g b) Q' E s₁)
    {o : Obj} {es : Array (Int × Value)} {ep : Nat} {t : SetTable} (ho : s.heap.get? a = some o) (hex : o.ExactSet) (hd : o.data = .set es ep t)
    {es1 : Array (Int × Value)} {t2 : SetTable} {S' : Str → Bool} (g1 : ∀ e ∈ es1.toList, GoodS w e) (nd1 : (es1.toList.map keyS).Nodup) (m1 : ∀ k, S' k = true ↔ k ∈ es1.toList.map keyS)
    (hb1 : es1.size < scanBound) (hf2 : t2.fits es1.size = true) (hr : Ris t2.place.toList) (hl : w.params.followText "set-order" = true ∨ t2.led = true) {wasDummy : Bool} {R : Option Bool → Shared → Prop}
    (hR : ∀ h', Heap.SameBut a s.heap h' → SetS w h' a S' es1.size → R (some true) { s with heap := h' }) :
    wpAny (model P w) A (do
        storeSet a es1 t2
        if (!wasDummy && t2.tooFull) = true then do
            g (relayAll t2 es1 (SetTable.grown es1.size)).2.2
            storeSet a (relayAll t2 es1 (SetTable.grown es1.size)).1 (relayAll t2 es1 (SetTable.grown es1.size)).2.1
            pure (some true)
          else pure (some true)) R E s := by
  refine wpAny_bind (wpAny_storeSet_of ho hd ?_ (fits_of_scanBound hb1))
  have ho1 := store_at (es' := es1) (t' := t2) ho hd
  have sb1 := Heap.SameBut.update s.heap a (Obj.putSet es1 t2)
  split
  · have pm := relayAll_perm t2 es1 (SetTable.grown es1.size)
    have hf3 := relayAll_fits t2 es1 (SetTable.grown es1.size)
    have hr3 := relayAll_ris t2 es1 (SetTable.grown es1.size)
    have hl3 := relayAll_led t2 es1 (SetTable.grown es1.size)
    generalize relayAll t2 es1 (SetTable.grown es1.size) = Z at pm hf3 hr3 hl3 ⊢
    obtain ⟨es2, t3, gave⟩ := Z
    dsimp only at pm hf3 hr3 hl3 ⊢
    have hsz : es2.size = es1.size := by rw [← Array.length_toList, pm.length_eq, Array.length_toList]
    have hb2 : es2.size < scanBound := by rw [hsz]; exact hb1
    refine wpAny_bind (hg _ _ _ ?_)
    refine wpAny_bind (wpAny_storeSet_of ho1 rfl ?_ (fits_of_scanBound hb2))
    have ho2 := store_at (es' := es2) (t' := t3) ho1 rfl
    refine wpAny_pure (hR _ (sb1.trans (Heap.SameBut.update _ a _)) ?_)
    exact ⟨_, es2, _, t3, ho2, hex, rfl, fun e he => g1 e (pm.mem_iff.mp he), (pm.map keyS).nodup_iff.mpr nd1, fun k => (m1 k).trans (pm.map keyS).mem_iff.symm, hb2, hf3, hsz, hr3,
      hl.imp id fun z => by rw [hl3]; exact z⟩
  · exact wpAny_pure (hR _ sb1 ⟨_, es1, _, t2, ho1, hex, rfl, g1, nd1, m1, hb1, hf2, rfl, hr, hl⟩)
theorem setS_add {k : Str} {tk : Tok} {Q : Bool → Shared → Prop} (R : SetS w s.heap a S n) (room : n + 1 < scanBound)
    (hQ : ∀ h', Heap.SameBut a s.heap h' → SetS w h' a (fun j => S j || decide (j = k)) (if S k = true then n else n + 1) → Q (!S k) { s with heap := h' }) :
    wpAny (model P w) A (setAddHashed a (.str k tk) ((PySem.strKind P w).hash k)) Q E s := by
  obtain ⟨o, es, ep, t, ho, hex, hd, g, nd, hm, hb, hf, hn, hr, hl⟩ := R
  have hkey : (PySem.strKind P w).is k (.str k tk) = true := PySem.strKind_is P w k tk
  have hsc : (Value.str k tk).scannable = true := rfl
  have hel : ElemsOf (PySem.strKind P w) es.toList := goodS_elems g
  unfold setAddHashed setAddHashedIn
  refine wpAny_holding (wpAny_bind (wpAny_setState_of ho hd hf ?_))
  dsimp only
  rw [byScan_of hsc hb hel]
  simp only [↓reduceIte]
  unfold setAddByScan
  refine wpAny_bind ?_
  refine wpAny_bind (wpAny_rule ?_)
  refine wpAny_bind (wpAny_setScan_of hkey ho hd hf hel ?_)
  cases hfi : List.findIdx? (fun e => (PySem.strKind P w).is k e.2) es.toList with
  | some j =>
    dsimp only
    obtain ⟨hj, pj, _⟩ := List.findIdx?_eq_some_iff_getElem.mp hfi
    have hSk : S k = true := (hm k).2 ((goodS_mem (P := P) (w := w) g k).2 ⟨es.toList[j], List.getElem_mem hj, pj⟩)
    refine wpAny_pure (wpAny_pure ?_)
    have q := hQ s.heap (Heap.SameBut.refl a s.heap) ⟨o, es, ep, t, ho, hex, hd, g, nd, fun i => by
      rw [Bool.or_eq_true, decide_eq_true_eq, ← hm i]
      exact ⟨fun z => z.elim id (fun e => e ▸ hSk), .inl⟩, hb, hf, by rw [if_pos hSk]; exact hn, hr, hl⟩
    rw [hSk] at q
    exact q
  | none =>
    dsimp only
    have hnk : k ∉ es.toList.map keyS := fun z => by
      obtain ⟨e, he, q⟩ := (goodS_mem (P := P) (w := w) g k).1 z
      have c := List.findIdx?_eq_none_iff.mp hfi e he
      rw [q] at c
      cases c
    have hSk : S k = false := by
      cases q : S k with
      | false => rfl
      | true => exact absurd ((hm k).1 q) hnk
    have hgw : ∀ (b : Bool) {s₁ : Shared} {Q' : Unit → Shared → Prop}, Q' () s₁ → wpAny (model P w) A (match b with | true => rule "set.scan.the-table-gave-way" | false => pure ()) Q' E s₁ :=
      fun b s₁ Q' q => by cases b <;> first | exact wpAny_pure q | exact wpAny_rule q
    have pm := layNew_perm t es ((PySem.strKind P w).hash k) (.str k tk)
    have hf1 := layNew_fits t es ((PySem.strKind P w).hash k) (.str k tk)
    have hr1 := layNew_ris t es ((PySem.strKind P w).hash k) (.str k tk) hr
    have hl1 := layNew_led t es ((PySem.strKind P w).hash k) (.str k tk)
    generalize layNew t es ((PySem.strKind P w).hash k) (.str k tk) = Z at pm hf1 hr1 hl1 ⊢
    obtain ⟨es1, t1, wasDummy, gave⟩ := Z
    dsimp only at pm hf1 hr1 hl1 ⊢
    rw [Array.toList_push] at pm
    have pc : es1.toList.Perm (((PySem.strKind P w).hash k, Value.str k tk) :: es.toList) := pm.trans (List.perm_append_singleton _ _)
    have pk : (es1.toList.map keyS).Perm (k :: es.toList.map keyS) := pc.map keyS
    have g1 : ∀ e ∈ es1.toList, GoodS w e := fun e he => by
      rcases List.mem_cons.mp (pc.mem_iff.mp he) with z | z
      · rw [z]; exact ⟨k, tk, rfl, rfl⟩
      · exact g e z
    have nd1 : (es1.toList.map keyS).Nodup := pk.nodup_iff.mpr (List.nodup_cons.mpr ⟨hnk, nd⟩)
    have m1 : ∀ i, (S i || decide (i = k)) = true ↔ i ∈ es1.toList.map keyS := fun i => by
      rw [Bool.or_eq_true, decide_eq_true_eq, hm i, pk.mem_iff, List.mem_cons]
      exact Or.comm
    have hsz : es1.size = n + 1 := by rw [← Array.length_toList, pc.length_eq, List.length_cons, Array.length_toList, hn]
    have hb1 : es1.size < scanBound := by rw [hsz]; exact room
    have hled : w.params.followText "set-order" = true ∨ t1.led = true := hl.imp id fun z => by rw [hl1]; exact z
    have fin : ∀ h', Heap.SameBut a s.heap h' → SetS w h' a (fun j => S j || decide (j = k)) es1.size → Q true { s with heap := h' } := fun h' sb r => by
      have q := hQ h' sb
      rw [hSk] at q
      rw [hsz] at r
      exact q r
    refine wpAny_bind (hgw _ ?_)
    split
    · refine wpAny_bind ?_
      rw [hashByValue_scannable 8 hsc]
      refine wpAny_pure ?_
      refine setS_tail ?_ ho hex hd g1 nd1 m1 hb1 ?_ ?_ ?_ ?_
      · intro b s₁ Q' q; cases b <;> first | exact wpAny_pure q | exact wpAny_rule q
      · first | (split <;> first | exact hf1 | exact SetTable.fits_plain_off hf1) | exact hf1
      · first | (split <;> exact hr1) | exact hr1
      · first | (split <;> exact hled) | exact hled
      · intro h' sb r; dsimp only; exact wpAny_pure (fin h' sb r)
    · refine wpAny_bind (wpAny_pure ?_)
      simp only [↓reduceIte]
      refine setS_tail ?_ ho hex hd g1 nd1 m1 hb1 hf1 hr1 hled ?_
      · intro b s₁ Q' q; cases b <;> first | exact wpAny_pure q | exact wpAny_rule q
      · intro h' sb r; dsimp only; exact wpAny_pure (fin h' sb r)
theorem set_update_strs {I : Addr} {fp wr : List Addr} {G : Array GenState → Array GenState → Prop} {n : Nat} {Pv : Nat → Value → Prop} {St : Nat → Shared → Prop} {R : Result → Shared → Prop}
    (W : WalksS P w A.in1 I fp wr G n Pv St) (S : Addr) (hSf : S ∉ fp) (ns : List Str) (hn : n = ns.length) (hb : ns.length + 1 < scanBound) (hval : ∀ i v, Pv i v → ∃ k t, ns[i]? = some k ∧ v = .str k t) :
    ∀ (k i : Nat) (s : Shared), n - i = k → i ≤ n → St i s → (∃ c, c ≤ i ∧ SetS w s.heap S (fun j => decide (j ∈ ns.take i)) c) →
      (∀ s' c, Moved (S :: wr) G s s' → SetS w s'.heap S (fun j => decide (j ∈ ns)) c → R (.ok (.ret .none)) s') →
      codeAny (model P w) A (.builtin "set.update.loop" ⟨[.ref S, .ref I], []⟩) R s := by
  have hSw : S ∉ wr := fun h => hSf (W.sub _ h)
  have hsub : ∀ b ∈ wr, b ∈ S :: wr := fun b hb => List.mem_cons_of_mem _ hb
  intro k
  induction k with
  | zero =>
    intro i s hk' hi hst ⟨c, hc, hS⟩ hR
    have hin : i = n := by omega
    subst hin
    refine codeAny_builtin F.entry_set_update_loop ?_
    rw [Around.under_plainId F.plain_set_update_loop _]
    show wpAny _ A.in1 (pyNext (.ref I) >>= _) _ _ s
    refine wpAny_bind (W.done s _ _ hst fun s' hm => ?_)
    show wpAny _ A.in1 (ret Value.none) _ _ s'
    have e : ns.take i = ns := List.take_of_length_le (by omega)
    rw [e] at hS
    exact wpAny_pure (hR s' c (hm.mono hsub) (hS.at fun o e => hm.heap S o hSw e))
  | succ k ih =>
    intro i s hk' hi hst ⟨c, hc, hS⟩ hR
    have hlt : i < n := by omega
    refine codeAny_builtin F.entry_set_update_loop ?_
    rw [Around.under_plainId F.plain_set_update_loop _]
    show wpAny _ A.in1 (pyNext (.ref I) >>= _) _ _ s
    refine wpAny_bind (W.item i s _ _ hlt hst fun v s' hP hst' hm => ?_)
    obtain ⟨z, t, hz, rfl⟩ := hval i v hP
    have hS' : SetS w s'.heap S (fun j => decide (j ∈ ns.take i)) c := hS.at fun o e => hm.heap S o hSw e
    show wpAny _ A.in1 (holding [Value.str z t] (setAdd S (.str z t)) >>= _) _ _ s'
    refine wpAny_bind (wpAny_holding ?_)
    unfold setAdd
    refine wpAny_holding ?_
    refine wpAny_bind ((PySem.strKind P w).pyHash (k := z) (PySem.strKind_is _ _ _ _) ?_)
    refine setS_add (s := { s' with toks := s'.toks + 1 }) hS' (by omega) fun h' hsb hS2 => ?_
    have hS3 : SetS w h' S (fun j => decide (j ∈ ns.take (i + 1))) (if decide (z ∈ ns.take i) = true then c else c + 1) := hS2.congr fun j => by
      rw [List.take_add_one, hz]
      simp [List.mem_append]
    have hc3 : (if decide (z ∈ ns.take i) = true then c else c + 1) ≤ i + 1 := by
      split <;> omega
    refine wpAny_pure ⟨plainId_quiet F.plain_set_update_loop _, ih (i + 1) _ (by omega) hlt (W.frame _ s' _ _ hst' (Nat.le_succ _) fun b hb o e => ?_) ⟨_, hc3, hS3⟩ fun s'' c2 hm'' hS'' => ?_⟩
    · rw [hsb.2 b (fun h : b = S => hSf (by rw [← h]; exact hb))]; exact e
    · refine hR s'' c2 (Moved.trans W.gtrans ((hm.mono hsub).then_heap (Nat.le_succ _) fun b o hb e => ?_) hm'') hS''
      rw [hsb.2 b (fun h : b = S => hb (by rw [h]; exact List.mem_cons_self))]; exact e
theorem SetS.size {h : Heap} {ns : List Str} {c : Nat} (R : SetS w h a (fun j => decide (j ∈ ns)) c) : c = (uniq ns).length := by
  obtain ⟨o, es, ep, t, _, _, _, _, nd, hm, _, _, hn, _⟩ := R
  rw [← hn, ← Array.length_toList, ← List.length_map (f := keyS)]
  refine nodup_len nd (uniq_nodup ns) fun x => ?_
  rw [uniq_mem, ← hm x, decide_eq_true_eq]
theorem strs_of_vals : ∀ {xs : List Str} {us : List Value}, Vals (xs.map V.str) us → StrsAre us xs
  | [], _, .nil => .nil
  | x :: xs, _, .cons r t => by
    obtain ⟨k, rfl⟩ := r
    exact .cons x k (strs_of_vals t)
theorem strs_len {us : List Value} {xs : List Str} (h : StrsAre us xs) : us.length = xs.length := by
  induction h with
  | nil => rfl
  | cons _ _ _ ih => exact congrArg (· + 1) ih
theorem strs_val : ∀ {us : List Value} {xs : List Str}, StrsAre us xs → ∀ (i : Nat) (v : Value), us[i]? = some v → ∃ k t, xs[i]? = some k ∧ v = .str k t
  | _, _, .nil, i, v, h => by simp at h
  | _, _, .cons n t hr, 0, v, h => by
    simp at h
    exact ⟨n, t, rfl, h.symm⟩
  | _, _, .cons n t hr, i + 1, v, h => by
    simp only [List.getElem?_cons_succ] at h
    obtain ⟨k, t', e1, e2⟩ := strs_val hr i v h
    exact ⟨k, t', by simpa using e1, e2⟩
abbrev newSet (w : World) : Obj := { cls := .type "set", dict := none, data := .set #[] 0 (.fresh 0 0 (!w.params.followText "set-order")) }
structure Hid (p : Prop) : Prop where
  out : p
theorem call_set_tupS {l : Addr} {items : Array Value} (ns : List Str) {Q : Value → Shared → Prop} (hh : A.handled = none) (hl : s.heap.IsTuple l items) (hit : StrsAre items.toList ns) (hb : ns.length + 1 < scanBound)
    (h : ∀ (h' : Heap) (tk : Nat), SetS w h' s.heap.objs.size (fun j => decide (j ∈ ns)) (uniq ns).length → (∀ b o, s.heap.get? b = some o → h'.get? b = some o) → Q (.ref s.heap.objs.size) { s with heap := h', toks := tk }) :
    wpAny (model P w) A (call (.type "set") [.ref l]) Q E s := by
  have hisz : items.size = ns.length := by
    have q := strs_len hit
    rw [Array.length_toList] at q
    exact q
  obtain ⟨c, tl, hmro⟩ := F.called_set.mro
  have hmade := F.called_set.made
  have hsub := F.called_set.sub
  refine wpAny_call (codeAny_of_tree ?_)
  show wpAny _ _ (callAny (.type "set") _) _ _ _
  refine wpAny_pure ⟨Code.quiet_builtin _ (by decide +kernel), codeAny_builtin F.entry_type_call ?_⟩
  rw [Around.under_plain (weight_type_call_type "set" [.ref l] []) rfl]
  have h1 := F.called_set.notType
  have hct := F.typeCall_set_1 (.ref l)
  have hbH : Hid (ns.length + 1 < scanBound) := ⟨hb⟩
  clear hb
  repeat (any_goals (first | assumption | wp_step))
  refine codeAny_mono (code_set_led1 (.ref l) (E := E) (Q₁ := fun obj s₁ => obj = .ref s.heap.objs.size ∧ s₁ = { s with heap := s.heap.push (newSet w) }) ⟨rfl, rfl⟩) fun r s₁ hr => ?_
  cases r with
  | error e => exact hr
  | ok fl =>
    cases fl with
    | ret obj =>
      obtain ⟨rfl, rfl⟩ := hr
      have hS : (s.heap.push (newSet w)).get? s.heap.objs.size = some (newSet w) := Heap.get?_push_size _ rfl
      have hT : Shared.TypeIs { s with heap := s.heap.push (newSet w) } (.ref s.heap.objs.size) "set" := ⟨_, hS, rfl⟩
      have hli := F.called_set.init.lookup
      have hbi := F.called_set.init.bind (.ref s.heap.objs.size)
      repeat (any_goals (first | assumption | wp_step))
      refine codeAny_mono (codeAny_call_builtin (R := wants (fun r s₂ => r = .none ∧ ∃ h' tk, s₂ = { s with heap := h', toks := tk } ∧ SetS w h' s.heap.objs.size (fun j => decide (j ∈ ns)) (uniq ns).length ∧
          (∀ b o, s.heap.get? b = some o → h'.get? b = some o)) E) F.called_set.init.plain F.entry_set_init (check_set_init_1 hT ?_)) fun r₂ s₂ hr₂ => ?_
      · obtain ⟨ol, hol, hcl, nl, hdl⟩ := hl
        obtain ⟨ocls, odict, odata, oslots⟩ := ol
        simp only at hcl hdl
        subst hcl; subst hdl
        have hol' : (s.heap.push (newSet w)).get? l = some { cls := .type "tuple", dict := odict, data := .seq items nl, slots := oslots } := Heap.get?_push_of_some _ hol
        have hsls := F.sub_tuple_set
        have hslf := F.sub_tuple_frozenset
        have hne : (Value.type "tuple" == Value.type "dict") = false := by decide
        have hl1 : (s.heap.push (newSet w)).IsTuple l items := ⟨_, hol', rfl, nl, rfl⟩
        unfold newSet at *
        unfold Builtin.«set.__init__» noKeywords Builtin.Frozenset.updateFrom
        generalize hPI : pyIter = PI
        wp_walk
        subst hPI
        refine wpAny_pyIter_tuple hl1 ?_
        refine wpAny_bind (wpAny_runValue ?_)
        have hlS : l < s.heap.objs.size := Heap.lt_size hol
        have hh3 : A.in1.in1.in1.handled = none := by simp [hh]
        have hz1 : (s.heap.push (newSet w)).objs.size = s.heap.objs.size + 1 := Heap.size_push ..
        unfold newSet at hz1
        have hneI : l ≠ (s.heap.push { cls := .type "set", dict := none, data := .set #[] 0 (.fresh 0 0 (!w.params.followText "set-order")) }).objs.size := by
          rw [Heap.size_push]; exact Nat.ne_of_lt (Nat.lt_succ_of_lt hlS)
        have hSf : s.heap.objs.size ∉ [(s.heap.push { cls := .type "set", dict := none, data := .set #[] 0 (.fresh 0 0 (!w.params.followText "set-order")) }).objs.size, l] := by
          rw [Heap.size_push]; simp only [List.mem_cons, List.mem_singleton, List.not_mem_nil, or_false, not_or]
          exact ⟨Nat.ne_of_lt (Nat.lt_succ_self _), Nat.ne_of_gt hlS⟩
        have hval : ∀ (i : Nat) (v : Value), items[i]? = some v → ∃ k t, ns[i]? = some k ∧ v = .str k t := fun i v hv => strs_val hit i v (by rw [Array.getElem?_toList]; exact hv)
        refine set_update_strs ((Walks.tuple hh3 _ l hneI items).toS) s.heap.objs.size
          hSf ns hisz hbH.out hval (items.size - 0) 0 _ (by omega) (Nat.zero_le _)
          ⟨⟨_, Heap.get?_push_size _ rfl, rfl, rfl⟩, (hl1.push _)⟩ ?hS0 ?hR
        case hS0 =>
          have hget : ((s.heap.push { cls := .type "set", dict := none, data := .set #[] 0 (.fresh 0 0 (!w.params.followText "set-order")) }).push { cls := .type "tuple_iterator", data := .fields #[.ref l, .int 0 0] }).get? s.heap.objs.size
              = some { cls := .type "set", dict := none, data := .set #[] 0 (.fresh 0 0 (!w.params.followText "set-order")) } := Heap.get?_push_of_some _ hS
          exact ⟨0, Nat.le_refl 0, (setS_fresh (ho := hget)).congr fun k => by simp⟩
        case hR =>
          intro s' c' hm hS'
          obtain ⟨h', g2, d', tk', os'⟩ := s'
          have eg : g2 = s.gens := hm.gens
          have ed : d' = s.drawn := hm.drawn
          have eo : os' = s.os := hm.os
          subst eg; subst ed; subst eo
          show wpAny _ _ _ _ _ _
          refine wpAny_pure ?_
          show wpAny _ _ (ret Value.none) _ _ _
          refine wpAny_pure ⟨rfl, h', tk', rfl, ?_, fun b o e => ?_⟩
          · have z := hS'.size
            rw [← z]
            exact hS'
          have hb0 : b < s.heap.objs.size := Heap.lt_size e
          have hb1 : b ≠ s.heap.objs.size := Nat.ne_of_lt hb0
          have hb2 : b ≠ (s.heap.push { cls := .type "set", dict := none, data := .set #[] 0 (.fresh 0 0 (!w.params.followText "set-order")) }).objs.size := by
            rw [Heap.size_push]; exact Nat.ne_of_lt (Nat.lt_succ_of_lt hb0)
          exact hm.heap b o (by simp only [List.mem_cons, List.mem_singleton, List.not_mem_nil, or_false, not_or]; exact ⟨hb1, hb2⟩) (Heap.get?_push_of_some _ (Heap.get?_push_of_some _ e))
      · cases r₂ with
        | error e => exact hr₂
        | ok fl₂ =>
          cases fl₂ with
          | ret r =>
            obtain ⟨rfl, h', tk, rfl, hS', hk'⟩ := hr₂
            repeat (any_goals (first | assumption | wp_step))
            exact h _ _ hS' hk'
          | _ => exact hr₂.elim
    | _ => exact hr.elim
theorem call_set_listS {l : Addr} {items : Array Value} (ns : List Str) {Q : Value → Shared → Prop} (hh : A.handled = none) (hl : s.heap.IsList l items) (hit : StrsAre items.toList ns) (hb : ns.length + 1 < scanBound)
    (h : ∀ (h' : Heap) (tk : Nat), SetS w h' s.heap.objs.size (fun j => decide (j ∈ ns)) (uniq ns).length → (∀ b o, s.heap.get? b = some o → h'.get? b = some o) → Q (.ref s.heap.objs.size) { s with heap := h', toks := tk }) :
    wpAny (model P w) A (call (.type "set") [.ref l]) Q E s := by
  have hisz : items.size = ns.length := by
    have q := strs_len hit
    rw [Array.length_toList] at q
    exact q
  obtain ⟨c, tl, hmro⟩ := F.called_set.mro
  have hmade := F.called_set.made
  have hsub := F.called_set.sub
  refine wpAny_call (codeAny_of_tree ?_)
  show wpAny _ _ (callAny (.type "set") _) _ _ _
  refine wpAny_pure ⟨Code.quiet_builtin _ (by decide +kernel), codeAny_builtin F.entry_type_call ?_⟩
  rw [Around.under_plain (weight_type_call_type "set" [.ref l] []) rfl]
  have h1 := F.called_set.notType
  have hct := F.typeCall_set_1 (.ref l)
  have hbH : Hid (ns.length + 1 < scanBound) := ⟨hb⟩
  clear hb
  repeat (any_goals (first | assumption | wp_step))
  refine codeAny_mono (code_set_led1 (.ref l) (E := E) (Q₁ := fun obj s₁ => obj = .ref s.heap.objs.size ∧ s₁ = { s with heap := s.heap.push (newSet w) }) ⟨rfl, rfl⟩) fun r s₁ hr => ?_
  cases r with
  | error e => exact hr
  | ok fl =>
    cases fl with
    | ret obj =>
      obtain ⟨rfl, rfl⟩ := hr
      have hS : (s.heap.push (newSet w)).get? s.heap.objs.size = some (newSet w) := Heap.get?_push_size _ rfl
      have hT : Shared.TypeIs { s with heap := s.heap.push (newSet w) } (.ref s.heap.objs.size) "set" := ⟨_, hS, rfl⟩
      have hli := F.called_set.init.lookup
      have hbi := F.called_set.init.bind (.ref s.heap.objs.size)
      repeat (any_goals (first | assumption | wp_step))
      refine codeAny_mono (codeAny_call_builtin (R := wants (fun r s₂ => r = .none ∧ ∃ h' tk, s₂ = { s with heap := h', toks := tk } ∧ SetS w h' s.heap.objs.size (fun j => decide (j ∈ ns)) (uniq ns).length ∧
          (∀ b o, s.heap.get? b = some o → h'.get? b = some o)) E) F.called_set.init.plain F.entry_set_init (check_set_init_1 hT ?_)) fun r₂ s₂ hr₂ => ?_
      · obtain ⟨ol, hol, hcl, nl, hdl⟩ := hl
        obtain ⟨ocls, odict, odata, oslots⟩ := ol
        simp only at hcl hdl
        subst hcl; subst hdl
        have hol' : (s.heap.push (newSet w)).get? l = some { cls := .type "list", dict := odict, data := .seq items nl, slots := oslots } := Heap.get?_push_of_some _ hol
        have hsls := F.sub_list_set
        have hslf := F.sub_list_frozenset
        have hne : (Value.type "list" == Value.type "dict") = false := by decide
        have hl1 : (s.heap.push (newSet w)).IsList l items := ⟨_, hol', rfl, nl, rfl⟩
        unfold newSet at *
        unfold Builtin.«set.__init__» noKeywords Builtin.Frozenset.updateFrom
        generalize hPI : pyIter = PI
        wp_walk
        subst hPI
        refine wpAny_pyIter_list hl1 ?_
        refine wpAny_bind (wpAny_runValue ?_)
        have hlS : l < s.heap.objs.size := Heap.lt_size hol
        have hh3 : A.in1.in1.in1.handled = none := by simp [hh]
        have hz1 : (s.heap.push (newSet w)).objs.size = s.heap.objs.size + 1 := Heap.size_push ..
        unfold newSet at hz1
        have hneI : l ≠ (s.heap.push { cls := .type "set", dict := none, data := .set #[] 0 (.fresh 0 0 (!w.params.followText "set-order")) }).objs.size := by
          rw [Heap.size_push]; exact Nat.ne_of_lt (Nat.lt_succ_of_lt hlS)
        have hSf : s.heap.objs.size ∉ [(s.heap.push { cls := .type "set", dict := none, data := .set #[] 0 (.fresh 0 0 (!w.params.followText "set-order")) }).objs.size, l] := by
          rw [Heap.size_push]; simp only [List.mem_cons, List.mem_singleton, List.not_mem_nil, or_false, not_or]
          exact ⟨Nat.ne_of_lt (Nat.lt_succ_self _), Nat.ne_of_gt hlS⟩
        have hval : ∀ (i : Nat) (v : Value), items[i]? = some v → ∃ k t, ns[i]? = some k ∧ v = .str k t := fun i v hv => strs_val hit i v (by rw [Array.getElem?_toList]; exact hv)
        refine set_update_strs ((Walks.list hh3 _ l hneI items).toS) s.heap.objs.size
          hSf ns hisz hbH.out hval (items.size - 0) 0 _ (by omega) (Nat.zero_le _)
          ⟨⟨_, Heap.get?_push_size _ rfl, rfl, rfl⟩, (hl1.push _)⟩ ?hS0 ?hR
        case hS0 =>
          have hget : ((s.heap.push { cls := .type "set", dict := none, data := .set #[] 0 (.fresh 0 0 (!w.params.followText "set-order")) }).push { cls := .type "list_iterator", data := .fields #[.ref l, .int 0 0] }).get? s.heap.objs.size
              = some { cls := .type "set", dict := none, data := .set #[] 0 (.fresh 0 0 (!w.params.followText "set-order")) } := Heap.get?_push_of_some _ hS
          exact ⟨0, Nat.le_refl 0, (setS_fresh (ho := hget)).congr fun k => by simp⟩
        case hR =>
          intro s' c' hm hS'
          obtain ⟨h', g2, d', tk', os'⟩ := s'
          have eg : g2 = s.gens := hm.gens
          have ed : d' = s.drawn := hm.drawn
          have eo : os' = s.os := hm.os
          subst eg; subst ed; subst eo
          show wpAny _ _ _ _ _ _
          refine wpAny_pure ?_
          show wpAny _ _ (ret Value.none) _ _ _
          refine wpAny_pure ⟨rfl, h', tk', rfl, ?_, fun b o e => ?_⟩
          · have z := hS'.size
            rw [← z]
            exact hS'
          have hb0 : b < s.heap.objs.size := Heap.lt_size e
          have hb1 : b ≠ s.heap.objs.size := Nat.ne_of_lt hb0
          have hb2 : b ≠ (s.heap.push { cls := .type "set", dict := none, data := .set #[] 0 (.fresh 0 0 (!w.params.followText "set-order")) }).objs.size := by
            rw [Heap.size_push]; exact Nat.ne_of_lt (Nat.lt_succ_of_lt hb0)
          exact hm.heap b o (by simp only [List.mem_cons, List.mem_singleton, List.not_mem_nil, or_false, not_or]; exact ⟨hb1, hb2⟩) (Heap.get?_push_of_some _ (Heap.get?_push_of_some _ e))
      · cases r₂ with
        | error e => exact hr₂
        | ok fl₂ =>
          cases fl₂ with
          | ret r =>
            obtain ⟨rfl, h', tk, rfl, hS', hk'⟩ := hr₂
            repeat (any_goals (first | assumption | wp_step))
            exact h _ _ hS' hk'
          | _ => exact hr₂.elim
    | _ => exact hr.elim
theorem sorted_setS {Q : Value → Shared → Prop} (R : SetS w s.heap a S n) (hh : A.handled = none) (h64 : n < 64)
    (hQ : ∀ s' p (out : Array Value) (c : Nat) (ns : List Str), (∀ b o, s.heap.get? b = some o → s'.heap.get? b = some o) → s'.gens = s.gens → s'.os = s.os → s.heap.objs.size ≤ p →
      s'.heap.get? p = some (seqObj "list" out c) → StrsAre out.toList ns → sortedS ns = true → ns.Nodup → (∀ k, k ∈ ns ↔ S k = true) → ns.length = n → Q (.ref p) s') :
    wpAny (model P w) A (call (.builtin "sorted") [.ref a]) Q E s := by
  obtain ⟨o, es, ep, t, ho, hex, hd, g, nd, hm, hb, hf, hn, hr, hl⟩ := R
  refine Calls.call_function_entry kind_sorted plain_sorted entry_sorted (args_sorted1 _) ?_
  unfold Builtin.«sorted»
  refine wpAny_bind (m := checkCount "sorted" 1 1 _) (wpAny_pure ?_)
  refine wpAny_bind (collect_set (A := A.in1) hh ⟨o, ho, hex.1, hd⟩ hf hb hr hl fun s1 vs k1 hz g1 o1 pm => ?_)
  have hvl : vs.length = n := by rw [pm.length_eq, List.length_map, Array.length_toList]; exact hn
  have hI : StrsAre vs (vs.map PyProof.Rows.strOf) := strsAre_map vs fun v hv => by
    obtain ⟨e, he, q⟩ := List.mem_map.mp (pm.mem_iff.mp hv)
    obtain ⟨k, tk, h1, _⟩ := g e he
    exact ⟨k, tk, by rw [← q]; exact h1⟩
  have pk : (vs.map PyProof.Rows.strOf).Perm (es.toList.map keyS) := by
    have q := pm.map PyProof.Rows.strOf
    rw [List.map_map] at q
    exact q
  refine wpAny_bind (wpAny_newList ?_ (by rw [hvl, sizeLine_eq]; omega))
  have hoL : (s1.heap.push (seqObj "list" vs.toArray 0)).get? s1.heap.objs.size = some (seqObj "list" vs.toArray 0) := Heap.get?_push_size _ rfl
  refine wpAny_bind (wpAny_holding (wpAny_call_entry slot_list_sort ⟨_, hoL, rfl⟩ entry_list_sort (list_sort_treeK strKind_oneLt hoL hI.keysOf (fun v₁ v₂ rest e => keyKind_strs (by rw [← e]; exact hI)) (by rw [hvl]; exact h64) fun st' a1 a2 => ⟨_, rfl, ?_⟩) (args_list_sort _)))
  obtain ⟨ns', b1, b2, b3⟩ := sorted_out_str hI a1 a2
  obtain ⟨c, hc⟩ := sortedHeap_at (vs := vs) (out := (arrOf st').map (·.2)) hoL
  have pn : ns'.Perm (es.toList.map keyS) := b2.trans pk
  refine wpAny_pure ⟨_, rfl, hQ _ s1.heap.objs.size _ c ns' (fun b u e => ?_) g1 o1 hz hc b1 b3 (pn.nodup_iff.mpr nd) (fun k => by rw [pn.mem_iff, ← hm k]) ?_⟩
  · have q := k1 b u e
    have hlt := Heap.lt_size q
    show (sortedHeap (s1.heap.push (seqObj "list" vs.toArray 0)) s1.heap.objs.size vs _).get? b = some u
    rw [sortedHeap_old (Nat.ne_of_lt hlt) (by rw [size_push']; exact Nat.lt_succ_of_lt hlt)]
    exact Heap.get?_push_of_some _ q
  · rw [pn.length_eq, List.length_map, Array.length_toList]; exact hn
end
def SetSO (w : World) (a : Addr) (S : Str → Bool) (n : Nat) : HO := .ext fun h => SetS w h a S n
section
variable {X : Cx}
theorem setSO_new {w : World} {P : Program} {H : Hp} {h : Heap} {a : Addr} {S : Str → Bool} {n : Nat} (R : SetS w h a S n) : ObjOk P w H h a (SetSO w a S n) := by
  have ⟨o, _, _, _, ho, _⟩ := R
  exact ⟨R, ⟨o, ho⟩, fun h1 h2 p k => SetS.at p k⟩
theorem setSO_get {pins : List (Addr × Obj)} {σ : L2.St} {H : Hp} {s : Shared} {a : Addr} {S : Str → Bool} {n : Nat} (I : Inv X pins σ H s) (ha : H a = some (SetSO X.w a S n)) : SetS X.w s.heap a S n := (I.hok a _ ha).1
def rSetOfS (K : PySem.W.Frag) (w : World) : List V → Hp → VK → Prop := fun vs H Q => ∃ (l : Addr) (xs : List Str), vs = [.ref l] ∧ (SqL K H l (xs.map V.str) ∨ SqT K H l (xs.map V.str)) ∧ xs.length ≤ 2000 ∧ ∀ a, H a = none → Q (.ref a) (upd H a (SetSO w a (fun j => decide (j ∈ xs)) (uniq xs).length))
theorem cr_setOfS (hc : X.calm = true) : CallR X (.type "set") (rSetOfS X.K X.w) := by
  intro pins s σ H vs us Q I r h
  obtain ⟨l, xs, rfl, hl, hk, q⟩ := h
  rw [Vals.ref1 r]
  have hn : H s.heap.objs.size = none := I.hok.fresh (Nat.le_refl _)
  have hb : xs.length + 1 < scanBound := by unfold scanBound; omega
  rcases hl with hl | hl
  · obtain ⟨its, rv, pl, hz⟩ := I.list hl
    exact call_set_listS (P := X.prog) (w := X.w) xs (I.ok.hd hc) pl.isList (by simpa using strs_of_vals rv) hb fun h' tk R k => ⟨.ref s.heap.objs.size, upd H s.heap.objs.size (SetSO X.w s.heap.objs.size _ _), I.laid (t' := tk) k (Nat.le_refl _) (setSO_new R), rfl, q _ hn⟩
  · obtain ⟨its, rv, pl, hz⟩ := I.tuple hl
    exact call_set_tupS (P := X.prog) (w := X.w) xs (I.ok.hd hc) pl (by simpa using strs_of_vals rv) hb fun h' tk R k => ⟨.ref s.heap.objs.size, upd H s.heap.objs.size (SetSO X.w s.heap.objs.size _ _), I.laid (t' := tk) k (Nat.le_refl _) (setSO_new R), rfl, q _ hn⟩
def rLenSS (w : World) : List V → Hp → VK → Prop := fun vs H Q => ∃ (a : Addr) (S : Str → Bool) (n : Nat), vs = [.ref a] ∧ H a = some (SetSO w a S n) ∧ Q (.int n) H
theorem cr_lenSS : CallR X (.builtin "len") (rLenSS X.w) := by
  intro pins s σ H vs us Q I r h
  obtain ⟨a, S, n, rfl, ha, q⟩ := h
  rw [Vals.ref1 r]
  obtain ⟨o, es, ep, t, ho, hex, hd, _, _, _, hb, hf, hn, _⟩ := setSO_get I ha
  exact call_len_set ho hex hd hf (by have z := hb; unfold scanBound at z; omega) ⟨.int n, H, I.tok _, ⟨_, by rw [hn]⟩, q⟩
def rSortSS (w : World) : List V → Hp → VK → Prop := fun vs H Q => ∃ (a : Addr) (S : Str → Bool) (n : Nat), vs = [.ref a] ∧ H a = some (SetSO w a S n) ∧ n < 64 ∧
  ∀ (ys : List Str) (p : Addr), ys.Nodup → (∀ k, k ∈ ys ↔ S k = true) → sortedS ys = true → ys.length = n → H p = none → Q (.ref p) (upd H p (.lst (ys.map V.str)))
theorem cr_sortSS (hc : X.calm = true) : CallR X (.builtin "sorted") (rSortSS X.w) := by
  intro pins s σ H vs us Q I r h
  obtain ⟨a, S, n, rfl, ha, h64, q⟩ := h
  have R := setSO_get I ha
  rw [Vals.ref1 r]
  refine sorted_setS R (I.ok.hd hc) h64 fun s' p out c ns k g o hp hg hi hs nd hm hl => ?_
  have hlen : (ns.map V.str).length ≤ sizeLine := by rw [List.length_map, hl, sizeLine_eq]; omega
  have hn : H p = none := I.hok.fresh hp
  have J : Inv X pins σ (upd H p (.lst (ns.map V.str))) { s with heap := s'.heap, gens := s'.gens, drawn := s'.drawn, toks := s'.toks } :=
    I.call (ch := []) (Un.laid k hp hn) (I.hok.laid k hp ⟨hlen, out.toList, c, vals_of_strs hi, hg⟩) (by rw [g]; exact I.bare) (fun _ z => nomatch z)
  have e : s' = { s with heap := s'.heap, gens := s'.gens, drawn := s'.drawn, toks := s'.toks } := by
    cases s'
    cases s
    cases o
    rfl
  rw [e]
  exact ⟨.ref p, _, J, rfl, q ns p nd hm hs hl hn⟩
end
end Aim
namespace Aim
open PySem PySem.Spec PyProof.Rows L2
open LamX (TabB Tabs CodeO)
inductive Dat where
  | non | bl (b : Bool) | int (i : Int) | str (x : Str) | byt (b : Array UInt8)
  | ty (n : String) | ref (a : Addr) | pot
  | tup (xs : List Dat) | lst (xs : List Dat)
  | dct (ks : List Key) (xs : List Dat)
  | obj (C : Addr) (ks : List Str) (xs : List Dat)
  | exc (C : Addr) (d : Dat)
  | scr (ns : List Int)
  | dcn (w : World) (ks : List NestedKey) (xs : List Dat)
mutual
def kDat : NestedKey → Dat
  | .none => .non
  | .num i => .int i
  | .text x => .str x
  | .tup ks => .tup (kDats ks)
def kDats : List NestedKey → List Dat
  | [] => []
  | k :: ks => kDat k :: kDats ks
end
theorem kDats_len : ∀ ks : List NestedKey, (kDats ks).length = ks.length
  | [] => rfl
  | _ :: ks => congrArg (· + 1) (kDats_len ks)
def kTup : NestedKey → Bool
  | .tup _ => true
  | _ => false
def kFlat : NestedKey → Bool
  | .num _ => true
  | .text _ => true
  | _ => false
structure KOk (ks : List NestedKey) : Prop where
  deep : ∀ k ∈ ks, k.depth ≤ 8
  uni : (∀ k ∈ ks, kTup k = true) ∨ ∀ k ∈ ks, kFlat k = true
inductive Ents (w : World) : List NestedKey → List V → List V → List DictEntry → Prop
  | nil : Ents w [] [] [] []
  | cons {k : NestedKey} {ks : List NestedKey} {y z : V} {ys zs : List V} {e : DictEntry} {es : List DictEntry} : e.hash = k.hash w → RelV y e.key → RelV z e.val → Ents w ks ys zs es → Ents w (k :: ks) (y :: ys) (z :: zs) (e :: es)
theorem Ents.len {w : World} : ∀ {ks : List NestedKey} {ys zs : List V} {es : List DictEntry}, Ents w ks ys zs es → ys.length = ks.length ∧ zs.length = ks.length ∧ es.length = ks.length
  | _, _, _, _, .nil => ⟨rfl, rfl, rfl⟩
  | _, _, _, _, .cons _ _ _ r => ⟨congrArg (· + 1) r.len.1, congrArg (· + 1) r.len.2.1, congrArg (· + 1) r.len.2.2⟩
structure DctObj (w : World) (ks : List NestedKey) (ys zs : List V) (o : Obj) : Prop where
  ex : o.ExactDict
  nd : ks.Nodup
  le : ks.length ≤ sizeLine
  ok : KOk ks
  ents : ∃ es ep, o.data = .dict es ep ∧ Ents w ks ys zs es.toList
def StrB (x : Str) : Prop := x.length ≤ sizeLine ∧ x.cps.all (fun c => decide (c < 0x110000)) = true
inductive Shp where
  | lst | ins (ks : List Str) | inst (C dx : Addr) | dct (w : World) (ks : List NestedKey)
def shφ : Shp → List V → Addr → Heap → Prop
  | .lst, xs, a, h => xs.length ≤ sizeLine ∧ ∃ (its : List Value) (k : Nat), Vals xs its ∧ h.get? a = some { cls := .type "list", data := .seq its.toArray k }
  | .ins ks, xs, a, h => (ks.length = xs.length ∧ xs.length ≤ 1000) ∧ (∃ (o : Obj) (es : Array DictEntry) (ep : Nat), h.get? a = some o ∧ o.data = .dict es ep) ∧ ∃ mA, h.Ns1 a mA ∧ (∀ f, RelO ((ks.zip xs).lookup f) (mA f)) ∧ PySem.Within mA ((ks.zip xs).map (·.1))
  | .inst C dx, _, a, h => h.get? a = some (PySem.W.instObj C dx)
  | .dct w ks, xs, a, h => (a == sysModules) = false ∧ ∃ (o : Obj) (ys zs : List V), xs = ys ++ zs ∧ h.get? a = some o ∧ DctObj w ks ys zs o
def OwnS (sh : Shp) (xs : List V) (a : Addr) : HO := .ext (shφ sh xs a)
abbrev OwnO (xs : List V) (a : Addr) : HO := OwnS .lst xs a
theorem OwnO.ok {P : Program} {w : World} {H : Hp} {h : Heap} {a : Addr} {xs : List V} (l : xs.length ≤ sizeLine) {its : List Value} {k : Nat} (r : Vals xs its) (e : h.get? a = some { cls := .type "list", data := .seq its.toArray k }) : ObjOk P w H h a (OwnO xs a) :=
  ⟨⟨l, its, k, r, e⟩, ⟨_, e⟩, fun _ _ ⟨l, its, k, r, q⟩ f => ⟨l, its, k, r, f _ q⟩⟩
theorem OwnS.at {P : Program} {w : World} {H : Hp} {h : Heap} {a : Addr} {sh : Shp} {xs : List V} (hok : HOk P w H h) (e : H a = some (OwnS sh xs a)) : shφ sh xs a h := by
  obtain ⟨x, _, _⟩ := (show ObjOk P w H h a (OwnS sh xs a) from hok a _ e)
  exact x
theorem OwnO.at {P : Program} {w : World} {H : Hp} {h : Heap} {a : Addr} {xs : List V} (hok : HOk P w H h) (e : H a = some (OwnO xs a)) : xs.length ≤ sizeLine ∧ ∃ (its : List Value) (k : Nat), Vals xs its ∧ h.get? a = some { cls := .type "list", data := .seq its.toArray k } := OwnS.at hok e
theorem OwnS.insOk {P : Program} {w : World} {H : Hp} {h : Heap} {a : Addr} {ks : List Str} {xs : List V} (y : shφ (.ins ks) xs a h) : ObjOk P w H h a (OwnS (.ins ks) xs a) := by
  obtain ⟨o, es, ep, e, _⟩ := id y.2.1
  exact ⟨y, ⟨o, e⟩, fun h1 h2 ⟨l, ⟨o, es, ep, e, d⟩, mA, ns, r, wi⟩ f => ⟨l, ⟨o, es, ep, f _ e, d⟩, mA, ns.at f, r, wi⟩⟩
theorem heap_with (a : Addr) (its : Array Value) : ∃ h : Heap, h.get? a = some { cls := .type "list", data := .seq its 0 } := ⟨⟨Array.replicate (a + 1) { cls := .type "list", data := .seq its 0 }, {}⟩, by simp [Heap.get?]⟩
theorem own_pot {sh : Shp} {xs : List V} {a : Addr} {k : Nat} : OwnS sh xs a ≠ PotO k a := fun z => by
  unfold OwnS PotO at z
  injection z with z
  have pot : ∀ d : Int, 0 ≤ d → ∀ h : Heap, h.get? a = some { cls := .type "list", data := .seq #[.int d 0, .int 0 0, .int 0 0] 0 } → shφ sh xs a h := fun d hd h hh => by
    rw [congrFun z h]
    exact ⟨d, 0, 0, 0, 0, 0, 0, hh, ⟨hd, by decide, by decide, by omega, by omega⟩⟩
  cases sh with
  | ins ks =>
    obtain ⟨h, hh⟩ := heap_with a #[.int 0 0, .int 0 0, .int 0 0]
    obtain ⟨_, ⟨o, es, ep, e, d⟩, _⟩ := pot 0 (by omega) h hh
    rw [hh] at e
    cases e
    cases d
  | inst C dx =>
    obtain ⟨h, hh⟩ := heap_with a #[.int 0 0, .int 0 0, .int 0 0]
    have y : h.get? a = some (PySem.W.instObj C dx) := pot 0 (by omega) h hh
    rw [hh] at y
    cases y
  | dct w ks =>
    obtain ⟨h, hh⟩ := heap_with a #[.int 0 0, .int 0 0, .int 0 0]
    obtain ⟨_, o, ys, zs, _, e, d⟩ : shφ (.dct w ks) xs a h := pot 0 (by omega) h hh
    obtain ⟨es, ep, d, _⟩ := d.ents
    rw [hh] at e
    cases e
    cases d
  | lst =>
    have key : ∀ d : Int, 0 ≤ d → xs[0]? = some (.int d) := fun d hd => by
      obtain ⟨h, hh⟩ := heap_with a #[.int d 0, .int 0 0, .int 0 0]
      obtain ⟨-, its, n, r, e⟩ := pot d hd h hh
      rw [hh] at e
      injection e with e
      injection e with _ _ e
      injection e with e _
      have e2 : its = [.int d 0, .int 0 0, .int 0 0] := by simpa using (congrArg Array.toList e).symm
      subst e2
      cases r with
      | cons r0 _ =>
        have e3 := r0.abs
        show some _ = some _
        exact e3.symm
    have h1 := key 0 (by omega)
    have h2 := key 1 (by omega)
    rw [h1] at h2
    cases h2
theorem own_vals (xs : List V) : ∃ its : List Value, Vals xs its := by
  induction xs with
  | nil => exact ⟨[], .nil⟩
  | cons x r ih =>
    obtain ⟨its, q⟩ := ih
    cases x with
    | non => exact ⟨.none :: its, .cons rfl q⟩
    | bl b => exact ⟨.bool b :: its, .cons rfl q⟩
    | int i => exact ⟨.int i 0 :: its, .cons ⟨_, rfl⟩ q⟩
    | str x => exact ⟨.str x 0 :: its, .cons ⟨_, rfl⟩ q⟩
    | byt b => exact ⟨.bytes b 0 :: its, .cons ⟨_, rfl⟩ q⟩
    | flt b => exact ⟨.float b 0 :: its, .cons ⟨_, rfl⟩ q⟩
    | ref a => exact ⟨.ref a :: its, .cons rfl q⟩
    | ty n => exact ⟨.type n :: its, .cons rfl q⟩
theorem own_kind {ks : List Str} {xs ys : List V} {a : Addr} (l : ys.length ≤ sizeLine) : OwnS (.ins ks) xs a ≠ OwnO ys a := fun z => by
  unfold OwnO OwnS at z
  injection z with z
  obtain ⟨its, r⟩ := own_vals ys
  obtain ⟨g, hg⟩ := heap_with a its.toArray
  have q : shφ (.ins ks) xs a g := by
    rw [z]
    exact ⟨l, its, 0, r, hg⟩
  obtain ⟨_, ⟨o, es, ep, e, d⟩, _⟩ := q
  rw [hg] at e
  cases e
  cases d
theorem own_flds {sh : Shp} {xs : List V} {a : Addr} {φ : Heap → Prop} (sat : ∃ h, φ h) (h : ∀ h : Heap, φ h → ∃ (o : Obj) (vs : Array Value), h.get? a = some o ∧ o.data = .fields vs) : HO.ext φ ≠ OwnS sh xs a := fun z => by
  unfold OwnS at z
  injection z with z
  obtain ⟨g, hg⟩ := sat
  obtain ⟨o, vs, e1, e2⟩ := h g hg
  rw [z] at hg
  cases sh with
  | lst =>
    obtain ⟨_, its, k, _, e⟩ := hg
    rw [e1] at e
    cases e
    cases e2
  | ins ks =>
    obtain ⟨_, ⟨o', es, ep, e, d⟩, _⟩ := hg
    rw [e1] at e
    cases e
    rw [e2] at d
    cases d
  | inst C dx =>
    have hg : g.get? a = some (PySem.W.instObj C dx) := hg
    rw [e1] at hg
    cases hg
    cases e2
  | dct w ks =>
    obtain ⟨_, o', ys, zs, _, e, d⟩ : shφ (.dct w ks) xs a g := hg
    obtain ⟨es, ep, d, _⟩ := d.ents
    rw [e1] at e
    cases e
    rw [e2] at d
    cases d
theorem own_xcv {sh : Shp} {xs : List V} {a : Addr} {cls : Value} {d : Option Addr} : XcV cls d a ≠ OwnS sh xs a := own_flds ⟨⟨Array.replicate (a + 1) { cls := cls, dict := d, data := .fields #[] }, {}⟩, { cls := cls, dict := d, data := .fields #[] }, #[], by simp [Heap.get?], ⟨rfl, rfl⟩, rfl⟩ fun h ⟨oe, vs, e, _, q⟩ => ⟨oe, vs, e, q⟩
theorem own_code {sh : Shp} {xs : List V} {a : Addr} {q : Str} : CodeO a q ≠ OwnS sh xs a := own_flds ⟨⟨Array.replicate (a + 1) { cls := .none, data := .fields #[.none, .str q 0] }, {}⟩, { cls := .none, data := .fields #[.none, .str q 0] }, _, 0, by simp [Heap.get?], rfl, rfl⟩ fun h ⟨oc, vs, t, e, q, _⟩ => ⟨oc, vs, e, q⟩
def Perm (b : Addr) (o : HO) : Prop := (∀ k, o ≠ PotO k b) ∧ (∀ {sh : Shp} (xs : List V), o ≠ OwnS sh xs b) ∧ ∀ ps, o ≠ .tbl ps
theorem perm_ext {b : Addr} {o : HO} (h : ∀ φ, o ≠ .ext φ) (h2 : ∀ ps, o ≠ .tbl ps) : Perm b o := ⟨fun _ => h _, fun {_} _ => h _, h2⟩
abbrev HidX (C dx x : Addr) : HO := OwnS (.inst C dx) [] x
theorem kind_ins {ks : List Str} {xs : List V} {C dx a : Addr} : OwnS (.ins ks) xs a ≠ HidX C dx a := fun z => by
  unfold HidX OwnS at z
  injection z with z
  obtain ⟨g, hg⟩ : ∃ h : Heap, h.get? a = some (PySem.W.instObj C dx) := ⟨⟨Array.replicate (a + 1) (PySem.W.instObj C dx), {}⟩, by simp [Heap.get?]⟩
  have y : shφ (.ins ks) xs a g := (congrFun z g).mpr hg
  obtain ⟨_, ⟨o, es, ep, e, d⟩, _⟩ := y
  rw [hg] at e
  cases e
  cases d
theorem kind_inst {ys : List V} {C dx a : Addr} : HidX C dx a ≠ OwnO ys a := fun z => by
  unfold HidX OwnO OwnS at z
  injection z with z
  obtain ⟨g, hg⟩ : ∃ h : Heap, h.get? a = some (PySem.W.instObj C dx) := ⟨⟨Array.replicate (a + 1) (PySem.W.instObj C dx), {}⟩, by simp [Heap.get?]⟩
  have y : shφ .lst ys a g := (congrFun z g).mp hg
  obtain ⟨_, its, k, _, e⟩ := y
  rw [hg] at e
  cases e
def FixO (o : Obj) (a : Addr) : HO := .ext fun h => h.get? a = some o
theorem FixO.ok {P : Program} {w : World} {H : Hp} {h : Heap} {a : Addr} {o : Obj} (e : h.get? a = some o) : ObjOk P w H h a (FixO o a) := ⟨e, ⟨o, e⟩, fun _ _ p k => k _ p⟩
theorem FixO.at {P : Program} {w : World} {H : Hp} {h : Heap} {a : Addr} {o : Obj} (hok : HOk P w H h) (e : H a = some (FixO o a)) : h.get? a = some o := (show ObjOk P w H h a (FixO o a) from hok a _ e).1
theorem heap_obj (a : Addr) {o : Obj} {es : Array DictEntry} {ep : Nat} (d : o.data = .dict es ep) : ∃ h : Heap, h.get? a = some o := ⟨⟨Array.replicate (a + 1) o, {}⟩, by
  obtain ⟨c, di, da, sl⟩ := o
  cases d
  simp [Heap.get?]⟩
theorem fix_pot {o : Obj} {es : Array DictEntry} {ep : Nat} (d : o.data = .dict es ep) {k : Nat} {a : Addr} : FixO o a ≠ PotO k a := fun z => by
  unfold FixO PotO at z
  injection z with z
  obtain ⟨h, hh⟩ := heap_with a #[.int 0 0, .int 0 0, .int 0 0]
  have y : h.get? a = some o := by
    rw [congrFun z h]
    exact ⟨0, 0, 0, 0, 0, 0, 0, hh, ⟨by decide, by decide, by decide, by omega, by omega⟩⟩
  rw [hh] at y
  cases y
  cases d
theorem fix_own {o : Obj} {es : Array DictEntry} {ep : Nat} (d : o.data = .dict es ep) {sh : Shp} {xs : List V} {a : Addr} : FixO o a ≠ OwnS sh xs a := fun z => by
  unfold FixO OwnS at z
  injection z with z
  obtain ⟨h, hh⟩ := heap_obj a d
  have y : shφ sh xs a h := (congrFun z h).mp hh
  obtain ⟨h2, hh2⟩ := heap_obj (o := { o with data := .dict es (ep + 1) }) a rfl
  have fin : shφ sh xs a h2 → False := fun q => by
    have q : h2.get? a = some o := (congrFun z h2).mpr q
    rw [hh2] at q
    injection q with q
    have q := congrArg Obj.data q
    rw [d] at q
    injection q with _ q
    omega
  cases sh with
  | lst =>
    obtain ⟨_, its, k, _, e⟩ := y
    rw [hh] at e
    cases e
    cases d
  | inst C dx =>
    have y : h.get? a = some (PySem.W.instObj C dx) := y
    rw [hh] at y
    cases y
    cases d
  | ins ks =>
    refine fin ?_
    obtain ⟨l, ⟨o', es', ep', e, d'⟩, mA, ⟨o2, es2, ep2, e2, d2, r2⟩, r⟩ := y
    rw [hh] at e e2
    cases e
    cases e2
    rw [d] at d2
    cases d2
    exact ⟨l, ⟨_, _, _, hh2, rfl⟩, mA, ⟨_, _, _, hh2, rfl, r2⟩, r⟩
  | dct w ks =>
    refine fin ?_
    obtain ⟨n, o', ys, zs, ex, e, q⟩ := y
    rw [hh] at e
    cases e
    obtain ⟨es', ep', d', en⟩ := q.ents
    rw [d] at d'
    cases d'
    exact ⟨n, _, ys, zs, ex, hh2, ⟨q.ex, q.nd, q.le, q.ok, _, _, rfl, en⟩⟩
theorem perm_fix {o : Obj} {w : World} {ks : List NestedKey} {ys zs : List V} (d : DctObj w ks ys zs o) {b : Addr} : Perm b (FixO o b) := by
  obtain ⟨es, ep, d, _⟩ := d.ents
  exact ⟨fun k => fix_pot d, fun {sh} xs => fix_own d, fun ps z => by unfold FixO at z; cases z⟩
theorem perm_xcv {cls : Value} {d : Option Addr} {b : Addr} : Perm b (XcV cls d b) := ⟨fun k z => xcv_np z, fun {sh} xs => own_xcv, fun ps z => by unfold XcV at z; cases z⟩
abbrev Sto := Addr → Option (Shp × List Dat)
class Stt (S : Type) where
  cnt : S → Nat
  sto : S → Sto
  at_ : S → Nat → S
  cnt_at : ∀ s k, cnt (at_ s k) = k
  sto_at : ∀ s k, sto (at_ s k) = sto s
open Stt (cnt sto)
instance sttNat : Stt Nat := ⟨fun n => n, fun _ _ => none, fun _ k => k, fun _ _ => rfl, fun _ _ => rfl⟩
variable {S : Type} [Stt S]
mutual
inductive Sees (K : PySem.W.Frag) (n : S) (H : Hp) : V → Dat → Prop
  | non : Sees K n H .non .non
  | bl (b : Bool) : Sees K n H (.bl b) (.bl b)
  | int (i : Int) : Sees K n H (.int i) (.int i)
  | str (x : Str) : StrB x → Sees K n H (.str x) (.str x)
  | byt (x : Array UInt8) : x.size ≤ sizeLine → Sees K n H (.byt x) (.byt x)
  | ty (x : String) : Sees K n H (.ty x) (.ty x)
  | ref (a : Addr) : Sees K n H (.ref a) (.ref a)
  | pot {a : Addr} {k : Nat} : H a = some (PotO k a) → k ≤ Stt.cnt n → Sees K n H (.ref a) .pot
  | tup {a : Addr} {xs : List V} {ds : List Dat} : SqN K H a xs → xs.length ≤ sizeLine → SeesL K n H xs ds → Sees K n H (.ref a) (.tup ds)
  | lst {a : Addr} {xs : List V} {ds : List Dat} : H a = some (.lst xs) → xs.length ≤ sizeLine → SeesL K n H xs ds → Sees K n H (.ref a) (.lst ds)
  | scr {a : Addr} {ns : List Int} : SqL K H a (ns.map V.int) → Sees K n H (.ref a) (.scr ns)
  | dct {a : Addr} {ks : List Key} {xs : List V} {ds : List Dat} : Rd H a (.dK (ks.zip xs)) → ks.length = xs.length → SeesL K n H xs ds → Sees K n H (.ref a) (.dct ks ds)
  | obj {a C dx : Addr} {ks : List Str} {xs : List V} {ds : List Dat} : H a = some (.ins C dx (ks.zip xs)) → ks.length = xs.length → SeesL K n H xs ds → Sees K n H (.ref a) (.obj C ks ds)
  | dcn {a : Addr} {o : Obj} {w : World} {ks : List NestedKey} {ys zs : List V} {ds : List Dat} : H a = some (FixO o a) → (a == sysModules) = false → DctObj w ks ys zs o → SeesL K n H ys (kDats ks) → SeesL K n H zs ds → Sees K n H (.ref a) (.dcn w ks ds)
  | exc {a C dd : Addr} {v : V} {d : Dat} : H a = some (XcV (.ref C) (some dd) a) → H dd = some (.xd [("value", v)]) → Sees K n H v d → Sees K n H (.ref a) (.exc C d)
inductive SeesL (K : PySem.W.Frag) (n : S) (H : Hp) : List V → List Dat → Prop
  | nil : SeesL K n H [] []
  | cons {v : V} {vs : List V} {d : Dat} {ds : List Dat} : Sees K n H v d → SeesL K n H vs ds → SeesL K n H (v :: vs) (d :: ds)
end
structure Frb (n : S) (H : Hp) (m : S) (H' : Hp) : Prop where
  le : cnt n ≤ cnt m
  keep : ∀ b o, H b = some o → Perm b o → H' b = some o
  pot : ∀ b k, k ≤ cnt n → H b = some (PotO k b) → ∃ j, j ≤ cnt m ∧ H' b = some (PotO j b)
section
variable {K : PySem.W.Frag} {n m : S} {H H' : Hp}
theorem Frb.rd {a : Addr} {u : HO} (e : Frb n H m H') (h : Rd H a u) (h1 : ∀ φ, u ≠ .ext φ) (h2 : ∀ ps, u ≠ .tbl ps) : Rd H' a u := by
  rcases h with h | ⟨o, h⟩
  · exact .inl (e.keep _ _ h (perm_ext h1 h2))
  · exact .inr ⟨o, e.keep _ _ h (perm_ext (fun _ z => nomatch z) fun _ z => nomatch z)⟩
theorem Frb.sqL {a : Addr} {xs : List V} (e : Frb n H m H') (h : SqL K H a xs) : SqL K H' a xs := h.imp (fun h => e.rd h (fun _ z => nomatch z) fun _ z => nomatch z) id
theorem Frb.sqT {a : Addr} {xs : List V} (e : Frb n H m H') (h : SqT K H a xs) : SqT K H' a xs := h.imp (fun h => e.rd h (fun _ z => nomatch z) fun _ z => nomatch z) id
theorem Frb.sqN {a : Addr} {xs : List V} (e : Frb n H m H') (h : SqN K H a xs) : SqN K H' a xs := h.imp (fun ⟨o, h, z⟩ => ⟨o, e.keep _ _ h (perm_ext (fun _ z => nomatch z) fun _ z => nomatch z), z⟩) id
theorem Frb.ins {a C dx : Addr} {fs : List (Str × V)} (e : Frb n H m H') (h : H a = some (.ins C dx fs)) : H' a = some (.ins C dx fs) := e.keep _ _ h (perm_ext (fun _ z => nomatch z) fun _ z => nomatch z)
theorem Frb.xd {a : Addr} {fs : List (Str × V)} (e : Frb n H m H') (h : H a = some (.xd fs)) : H' a = some (.xd fs) := e.keep _ _ h (perm_ext (fun _ z => nomatch z) fun _ z => nomatch z)
mutual
theorem Sees.monoB (e : Frb n H m H') : ∀ {v : V} {d : Dat}, Sees K n H v d → Sees K m H' v d
  | _, _, .non => .non
  | _, _, .bl b => .bl b
  | _, _, .int i => .int i
  | _, _, .str x l => .str x l
  | _, _, .byt x l => .byt x l
  | _, _, .ty x => .ty x
  | _, _, .ref a => .ref a
  | _, _, .pot h l => by
    obtain ⟨j, h1, h2⟩ := e.pot _ _ l h
    exact .pot h2 h1
  | _, _, .tup hs l ha => .tup (e.sqN hs) l (SeesL.monoB e ha)
  | _, _, .lst hs l ha => .lst (e.keep _ _ hs (perm_ext (fun _ z => nomatch z) fun _ z => nomatch z)) l (SeesL.monoB e ha)
  | _, _, .scr hs => .scr (e.sqL hs)
  | _, _, .dct hs hk ha => .dct (e.rd hs (fun _ z => nomatch z) fun _ z => nomatch z) hk (SeesL.monoB e ha)
  | _, _, .obj hs hk ha => .obj (e.ins hs) hk (SeesL.monoB e ha)
  | _, _, .dcn h1 h2 h3 h4 h5 => .dcn (e.keep _ _ h1 (perm_fix h3)) h2 h3 (SeesL.monoB e h4) (SeesL.monoB e h5)
  | _, _, .exc h1 h2 h3 => .exc (e.keep _ _ h1 perm_xcv) (e.xd h2) (Sees.monoB e h3)
theorem SeesL.monoB (e : Frb n H m H') : ∀ {vs : List V} {ds : List Dat}, SeesL K n H vs ds → SeesL K m H' vs ds
  | _, _, .nil => .nil
  | _, _, .cons h r => .cons (Sees.monoB e h) (SeesL.monoB e r)
end
theorem Frb.refl : Frb n H n H := ⟨Nat.le_refl _, fun _ _ e _ => e, fun _ j h e => ⟨j, h, e⟩⟩
theorem Frb.growB (g : Grow H H') : Frb n H n H' := ⟨Nat.le_refl _, fun b o e _ => g b o e, fun b k q e => ⟨k, q, g _ _ e⟩⟩
theorem Frb.pots {p : Addr} {j i : Nat} (h : H p = some (PotO j p)) (l : i ≤ cnt m) (h2 : cnt n ≤ cnt m) : Frb n H m (upd H p (PotO i p)) := by
  refine ⟨h2, fun b o e q => ?_, fun b k q e => ?_⟩
  · rw [upd_ne fun z => ?_]
    · exact e
    · subst z
      rw [h] at e
      exact q.1 j (Option.some.inj e).symm
  · by_cases hb : b = p
    · subst hb
      exact ⟨i, l, upd_same⟩
    · rw [upd_ne hb]
      exact ⟨k, Nat.le_trans q h2, e⟩
theorem Frb.own {p : Addr} {sh : Shp} {o : HO} {xs : List V} (h : H p = some (OwnS sh xs p)) : Frb n H n (upd H p o) := by
  refine ⟨Nat.le_refl _, fun b u e q => ?_, fun b k q e => ?_⟩
  · rw [upd_ne fun z => ?_]
    · exact e
    · subst z
      rw [h] at e
      exact q.2.1 xs (Option.some.inj e).symm
  · rw [upd_ne fun z => ?_]
    · exact ⟨k, q, e⟩
    · subst z
      rw [h] at e
      exact own_pot (Option.some.inj e)
end
def shW : Shp → List V → List Dat → Prop
  | .lst, xs, _ => xs.length ≤ sizeLine
  | .ins ks, xs, _ => ks.length = xs.length
  | .inst _ _, xs, ds => xs = [] ∧ ds = []
  | .dct w ks, xs, ds => (xs.length = ds.length ∧ ∃ vds, ds = kDats ks ++ vds ∧ vds.length = ks.length) ∧ ∃ (o : Obj) (ys zs : List V), xs = ys ++ zs ∧ DctObj w ks ys zs o
structure StoOk (K : PySem.W.Frag) (n : S) (H : Hp) : Prop where
  ok : ∀ a sh ds, sto n a = some (sh, ds) → ∃ xs, H a = some (OwnS sh xs a) ∧ shW sh xs ds ∧ SeesL K n H xs ds
section
variable {TT : List (Addr × Str)} {K : PySem.W.Frag} {n m k : S} {H H1 H2 H' : Hp}
theorem StoOk.none {n : S} (h : ∀ a, sto n a = none) : StoOk K n H := ⟨fun a sh ds e => by rw [h a] at e; cases e⟩
theorem StoOk.nat {n : Nat} : StoOk K n H := .none fun _ => rfl
theorem StoOk.free {a : Addr} (h : StoOk K n H) (e : H a = Option.none) : sto n a = Option.none := by
  cases z : sto n a with
  | none => rfl
  | some c =>
    obtain ⟨xs, q, _⟩ := h.ok a c.1 c.2 z
    rw [e] at q
    cases q
theorem StoOk.mono (h : StoOk K n H) (e : Frb n H m H') (hs : sto m = sto n) (k : ∀ a xs sh, sto n a ≠ Option.none → H a = some (OwnS sh xs a) → H' a = some (OwnS sh xs a)) : StoOk K m H' := ⟨fun a sh ds q => by
  rw [hs] at q
  obtain ⟨xs, h1, h2, h3⟩ := h.ok a sh ds q
  exact ⟨xs, k a xs sh (by rw [q]; simp) h1, h2, SeesL.monoB e h3⟩⟩
structure Fra (K : PySem.W.Frag) (TT : List (Addr × Str)) (n : S) (H : Hp) (m : S) (H' : Hp) : Prop extends Frb n H m H' where
  tab : Tabs TT H → Tabs TT H'
  st : StoOk K n H → StoOk K m H'
theorem Fra.refl : Fra K TT n H n H := ⟨.refl, id, id⟩
theorem Frb.trans (a : Frb n H m H1) (b : Frb m H1 k H2) : Frb n H k H2 := ⟨Nat.le_trans a.le b.le, fun c o e p => b.keep c o (a.keep c o e p) p, fun c j h e => by
  obtain ⟨i, h1, e1⟩ := a.pot c j h e
  exact b.pot c i h1 e1⟩
theorem Fra.trans (a : Fra K TT n H m H1) (b : Fra K TT m H1 k H2) : Fra K TT n H k H2 := ⟨a.toFrb.trans b.toFrb, fun t => b.tab (a.tab t), fun t => b.st (a.st t)⟩
theorem Fra.grow (g : Grow H H') : Fra K TT n H n H' := ⟨.growB g, fun t => t.ext g, fun t => t.mono (.growB g) rfl fun a xs sh _ e => g _ _ e⟩
theorem Fra.pots {p : Addr} {j i : Nat} (h : H p = some (PotO j p)) (l : i ≤ cnt m) (h2 : cnt n ≤ cnt m) (hs : sto m = sto n) : Fra K TT n H m (upd H p (PotO i p)) := ⟨.pots h l h2, fun t => (Ext.pot (m := i) h).2 t, fun t => t.mono (.pots h l h2) hs fun a xs sh _ e => by
  rw [upd_ne fun z => ?_]
  · exact e
  · subst z
    rw [h] at e
    exact own_pot (Option.some.inj e).symm⟩
theorem tabs_own {p : Addr} {o : HO} {sh : Shp} {xs : List V} (h : H p = some (OwnS sh xs p)) (t : Tabs TT H) : Tabs TT (upd H p o) := fun x hx => by
  obtain ⟨ps, h1, h2, h3⟩ := t x hx
  refine ⟨ps, ?_, h2, fun pos cv hc => ?_⟩
  · rw [upd_ne fun z => ?_]
    · exact h1
    · rw [z, h] at h1
      unfold OwnS at h1
      cases h1
  · obtain ⟨c, e1, e2⟩ := h3 pos cv hc
    refine ⟨c, e1, ?_⟩
    rw [upd_ne fun z => ?_]
    · exact e2
    · subst z
      rw [h] at e2
      exact own_code (Option.some.inj e2).symm
theorem Fra.wr {p : Addr} {sh : Shp} {o : HO} {xs : List V} (h : H p = some (OwnS sh xs p)) (hs : sto n p = none) : Fra K TT n H n (upd H p o) := ⟨.own h, tabs_own h, fun t => t.mono (.own h) rfl fun a ys sh' ns e => by
  rw [upd_ne fun z => ns (by rw [z]; exact hs)]
  exact e⟩
theorem Fra.own {p : Addr} {sh sh' : Shp} {xs ys : List V} (h : H p = some (OwnS sh xs p)) (hs : sto n p = none) : Fra K TT n H n (upd H p (OwnS sh' ys p)) := .wr h hs
end
structure Fre (K : PySem.W.Frag) (TT : List (Addr × Str)) (n : S) (H : Hp) (m : S) (H' : Hp) : Prop extends Fra K TT n H m H' where
  own : ∀ {sh : Shp} (b : Addr) (xs : List V), H b = some (OwnS sh xs b) → sto n b = none → H' b = some (OwnS sh xs b) ∧ sto m b = none
section
variable {TT : List (Addr × Str)} {K : PySem.W.Frag} {n m k : S} {H H1 H2 H' : Hp}
theorem Fre.refl : Fre K TT n H n H := ⟨.refl, fun _ _ e s => ⟨e, s⟩⟩
theorem Fre.trans (a : Fre K TT n H m H1) (b : Fre K TT m H1 k H2) : Fre K TT n H k H2 := ⟨a.toFra.trans b.toFra, fun c xs e s => b.own c xs (a.own c xs e s).1 (a.own c xs e s).2⟩
theorem Fre.grow (g : Grow H H') : Fre K TT n H n H' := ⟨.grow g, fun _ _ e s => ⟨g _ _ e, s⟩⟩
theorem Fre.pots {p : Addr} {j i : Nat} (h : H p = some (PotO j p)) (l : i ≤ cnt m) (h2 : cnt n ≤ cnt m) (hs : sto m = sto n) : Fre K TT n H m (upd H p (PotO i p)) := ⟨.pots h l h2 hs, fun b xs e s => by
  rw [upd_ne fun z => ?_]
  · exact ⟨e, by rw [hs]; exact s⟩
  · subst z
    rw [h] at e
    exact own_pot (Option.some.inj e).symm⟩
end
section
variable {TT : List (Addr × Str)} {K : PySem.W.Frag} {n m : S} {H H' : Hp}
theorem Sees.mono {v : V} {d : Dat} (e : Fra K TT n H m H') (s : Sees K n H v d) : Sees K m H' v d := s.monoB e.toFrb
theorem SeesL.mono {v : List V} {d : List Dat} (e : Fra K TT n H m H') (s : SeesL K n H v d) : SeesL K m H' v d := s.monoB e.toFrb
theorem Sees.grow {v : V} {d : Dat} (h : Sees K n H v d) (g : Grow H H') : Sees K n H' v d := h.monoB (.growB g)
theorem SeesL.grow {v : List V} {d : List Dat} (h : SeesL K n H v d) (g : Grow H H') : SeesL K n H' v d := h.monoB (.growB g)
theorem SeesL.length : ∀ {vs : List V} {ds : List Dat}, SeesL K n H vs ds → vs.length = ds.length
  | _, _, .nil => rfl
  | _, _, .cons _ r => congrArg (· + 1) (SeesL.length r)
theorem SeesL.get : ∀ {vs : List V} {ds : List Dat} {i : Nat} {v : V}, SeesL K n H vs ds → vs[i]? = some v → ∃ d, ds[i]? = some d ∧ Sees K n H v d
  | _, _, _, _, .nil, e => by simp at e
  | _, _, 0, _, .cons h _, e => by
    simp at e
    subst e
    exact ⟨_, rfl, h⟩
  | _, _, i + 1, _, .cons _ r, e => by
    obtain ⟨d, e1, e2⟩ := SeesL.get (i := i) r (by simpa using e)
    exact ⟨d, by simpa using e1, e2⟩
theorem SeesL.getD : ∀ {vs : List V} {ds : List Dat} {i : Nat} {d : Dat}, SeesL K n H vs ds → ds[i]? = some d → ∃ v, vs[i]? = some v ∧ Sees K n H v d
  | _, _, _, _, .nil, e => by simp at e
  | _, _, 0, _, .cons h _, e => by
    simp at e
    subst e
    exact ⟨_, rfl, h⟩
  | _, _, i + 1, _, .cons _ r, e => by
    obtain ⟨d, e1, e2⟩ := SeesL.getD (i := i) r (by simpa using e)
    exact ⟨d, by simpa using e1, e2⟩
theorem SeesL.append : ∀ {vs us : List V} {ds es : List Dat}, SeesL K n H vs ds → SeesL K n H us es → SeesL K n H (vs ++ us) (ds ++ es)
  | _, _, _, _, .nil, s => s
  | _, _, _, _, .cons h r, s => .cons h (SeesL.append r s)
theorem SeesL.take : ∀ {vs : List V} {ds : List Dat} (i : Nat), SeesL K n H vs ds → SeesL K n H (vs.take i) (ds.take i)
  | _, _, 0, _ => by simp; exact .nil
  | _, _, _ + 1, .nil => by simp; exact .nil
  | _, _, i + 1, .cons h r => .cons h (SeesL.take i r)
theorem SeesL.drop : ∀ {vs : List V} {ds : List Dat} (i : Nat), SeesL K n H vs ds → SeesL K n H (vs.drop i) (ds.drop i)
  | _, _, 0, r => r
  | _, _, _ + 1, .nil => .nil
  | _, _, i + 1, .cons _ r => SeesL.drop i r
theorem SeesL.set {x : V} {y : Dat} (hx : Sees K n H x y) : ∀ {vs : List V} {ds : List Dat} (i : Nat), SeesL K n H vs ds → SeesL K n H (vs.set i x) (ds.set i y)
  | _, _, _, .nil => .nil
  | _, _, 0, .cons _ r => .cons hx r
  | _, _, i + 1, .cons h r => .cons h (SeesL.set hx i r)
theorem SeesL.reverse : ∀ {vs : List V} {ds : List Dat}, SeesL K n H vs ds → SeesL K n H vs.reverse ds.reverse
  | _, _, .nil => .nil
  | _, _, .cons h r => by
    rw [List.reverse_cons, List.reverse_cons]
    exact (SeesL.reverse r).append (.cons h .nil)
theorem Sees.int_iff {v : V} {i : Int} (h : Sees K n H v (.int i)) : v = .int i := by cases h; rfl
theorem Sees.bl_iff {v : V} {b : Bool} (h : Sees K n H v (.bl b)) : v = .bl b := by cases h; rfl
theorem Sees.str_iff {v : V} {x : Str} (h : Sees K n H v (.str x)) : v = .str x ∧ StrB x := by
  cases h with
  | str _ l => exact ⟨rfl, l⟩
theorem Sees.non_iff {v : V} (h : Sees K n H v .non) : v = .non := by cases h; rfl
theorem Sees.byt_iff {v : V} {x : Array UInt8} (h : Sees K n H v (.byt x)) : v = .byt x ∧ x.size ≤ sizeLine := by
  cases h with
  | byt _ l => exact ⟨rfl, l⟩
theorem Sees.ty_iff {v : V} {x : String} (h : Sees K n H v (.ty x)) : v = .ty x := by cases h; rfl
theorem Sees.ref_iff {v : V} {a : Addr} (h : Sees K n H v (.ref a)) : v = .ref a := by cases h; rfl
theorem Sees.tup_iffN {v : V} {ds : List Dat} (h : Sees K n H v (.tup ds)) : ∃ a xs, v = .ref a ∧ SqN K H a xs ∧ xs.length ≤ sizeLine ∧ SeesL K n H xs ds := by
  cases h with
  | tup h1 l h2 => exact ⟨_, _, rfl, h1, l, h2⟩
theorem Sees.tup_iff {v : V} {ds : List Dat} (h : Sees K n H v (.tup ds)) : ∃ a xs, v = .ref a ∧ SqT K H a xs ∧ xs.length ≤ sizeLine ∧ SeesL K n H xs ds := by
  obtain ⟨a, xs, e, h1, l, h2⟩ := h.tup_iffN
  exact ⟨a, xs, e, h1.sqT, l, h2⟩
theorem Sees.lst_iff {v : V} {ds : List Dat} (h : Sees K n H v (.lst ds)) : ∃ a xs, v = .ref a ∧ SqL K H a xs ∧ xs.length ≤ sizeLine ∧ SeesL K n H xs ds := by
  cases h with
  | lst h1 l h2 => exact ⟨_, _, rfl, .of h1, l, h2⟩
theorem Sees.lst_at {v : V} {ds : List Dat} (h : Sees K n H v (.lst ds)) : ∃ a xs, v = .ref a ∧ H a = some (.lst xs) ∧ xs.length ≤ sizeLine ∧ SeesL K n H xs ds := by
  cases h with
  | lst h1 l h2 => exact ⟨_, _, rfl, h1, l, h2⟩
theorem Sees.lstOf {p : Addr} {xs : List V} {ds : List Dat} (h : H p = some (.lst xs)) (l : xs.length ≤ sizeLine) (d : SeesL K n H xs ds) : Sees K n H (.ref p) (.lst ds) := .lst h l d
theorem Sees.tupOf {p : Addr} {o : Obj} {xs : List V} {ds : List Dat} (h : H p = some (.frz o (.tup xs))) (ho : o.dict = none) (l : xs.length ≤ sizeLine) (d : SeesL K n H xs ds) : Sees K n H (.ref p) (.tup ds) := .tup (.inl ⟨o, h, ho⟩) l d
theorem Sees.newL {p : Addr} {xs : List V} {ds : List Dat} (h : H p = none) (l : xs.length ≤ sizeLine) (d : SeesL K n H xs ds) : Sees K n (upd H p (.lst xs)) (.ref p) (.lst ds) := .lstOf upd_same l (d.grow (.new h))
theorem Sees.newT {p : Addr} {o : Obj} {xs : List V} {ds : List Dat} (h : H p = none) (ho : o.dict = none) (l : xs.length ≤ sizeLine) (d : SeesL K n H xs ds) : Sees K n (upd H p (.frz o (.tup xs))) (.ref p) (.tup ds) := .tupOf upd_same ho l (d.grow (.new h))
end
inductive Sl where
  | no | val (d : Dat) | own (ds : List Dat) | ins (a C : Addr) (ks : List Str) (ds : List Dat)
inductive SlR (K : PySem.W.Frag) (n : S) (H : Hp) : Sl → Option V → Prop
  | no {o : Option V} : SlR K n H .no o
  | val {v : V} {d : Dat} : Sees K n H v d → SlR K n H (.val d) (some v)
  | own {a : Addr} {xs : List V} {ds : List Dat} : xs.length ≤ sizeLine → H a = some (OwnO xs a) → sto n a = none → SeesL K n H xs ds → SlR K n H (.own ds) (some (.ref a))
  | ins {C dx x : Addr} {ks : List Str} {xs : List V} {ds : List Dat} : ks.length = xs.length → H x = some (HidX C dx x) → H dx = some (OwnS (.ins ks) xs dx) → (sto n x = none ∧ sto n dx = none) → SeesL K n H xs ds → SlR K n H (.ins x C ks ds) (some (.ref x))
def Owns (ρ : List Sl) (σ : L2.St) (i : Nat) (a : Addr) : Prop := (∃ ds, ρ[i]? = some (.own ds)) ∧ σ[i]? = some (some (.ref a))
structure Rel (K : PySem.W.Frag) (ρ : List Sl) (n : S) (σ : L2.St) (H : Hp) : Prop where
  len : ρ.length = σ.length
  sl : ∀ (i : Nat) (s : Sl), ρ[i]? = some s → ∃ o, σ[i]? = some o ∧ SlR K n H s o
  ap : ∀ (i j : Nat) (a b : Addr), i ≠ j → Owns ρ σ i a → Owns ρ σ j b → a ≠ b
  st : StoOk K n H
section
variable {TT : List (Addr × Str)} {K : PySem.W.Frag} {n m : S} {H H' : Hp} {ρ : List Sl} {σ : L2.St}
theorem Rel.var {i : Nat} {d : Dat} (r : Rel K ρ n σ H) (h : ρ[i]? = some (.val d)) : ∃ v, σ[i]? = some (some v) ∧ Sees K n H v d := by
  obtain ⟨o, e, q⟩ := r.sl i _ h
  cases q with
  | val h => exact ⟨_, e, h⟩
theorem Rel.owned {i : Nat} {ds : List Dat} (r : Rel K ρ n σ H) (h : ρ[i]? = some (.own ds)) : ∃ a xs, σ[i]? = some (some (.ref a)) ∧ xs.length ≤ sizeLine ∧ H a = some (OwnO xs a) ∧ sto n a = none ∧ SeesL K n H xs ds := by
  obtain ⟨o, e, q⟩ := r.sl i _ h
  cases q with
  | own l h1 hs h2 => exact ⟨_, _, e, l, h1, hs, h2⟩
theorem not_makes {a dx : Addr} {ks : List Str} {xs ys : List V} {o : HO} (e : H a = some (OwnO ys a)) (l : ys.length ≤ sizeLine) (h : H dx = some (OwnS (.ins ks) xs dx)) : upd H a o dx = H dx := upd_ne fun w => by
  rw [w, e] at h
  exact own_kind l (Option.some.inj h).symm
theorem not_hid {a C dx x : Addr} {ys : List V} {o : HO} (e : H a = some (OwnO ys a)) (h : H x = some (HidX C dx x)) : upd H a o x = H x := upd_ne fun w => by
  rw [w, e] at h
  exact kind_inst (w ▸ (Option.some.inj h).symm)
theorem Rel.making {i : Nat} {x C : Addr} {ks : List Str} {ds : List Dat} (r : Rel K ρ n σ H) (h : ρ[i]? = some (.ins x C ks ds)) : ∃ dx xs, σ[i]? = some (some (.ref x)) ∧ ks.length = xs.length ∧ H x = some (HidX C dx x) ∧ H dx = some (OwnS (.ins ks) xs dx) ∧ (sto n x = none ∧ sto n dx = none) ∧ SeesL K n H xs ds := by
  obtain ⟨o, e, q⟩ := r.sl i _ h
  cases q with
  | ins l h1 h2 hs h3 => exact ⟨_, _, e, l, h1, h2, hs, h3⟩
theorem SlR.mono {s : Sl} {o : Option V} (h : SlR K n H s o) (e : Fra K TT n H m H') (k : ∀ a xs, o = some (.ref a) → xs.length ≤ sizeLine → H a = some (OwnO xs a) → sto n a = none → (∃ ds, s = .own ds) → H' a = H a ∧ sto m a = none)
    (k2 : ∀ C x dx ks ds xs, o = some (.ref x) → s = .ins x C ks ds → H x = some (HidX C dx x) → H dx = some (OwnS (.ins ks) xs dx) → sto n x = none → sto n dx = none → (H' dx = H dx ∧ H' x = H x) ∧ sto m x = none ∧ sto m dx = none) : SlR K m H' s o := by
  cases h with
  | no => exact .no
  | val h => exact .val (h.mono e)
  | own l h1 hs h2 => exact .own l ((k _ _ rfl l h1 hs ⟨_, rfl⟩).1.trans h1) (k _ _ rfl l h1 hs ⟨_, rfl⟩).2 (h2.mono e)
  | ins l h1 h2 hs h3 =>
    have z := k2 _ _ _ _ _ _ rfl rfl h1 h2 hs.1 hs.2
    exact .ins l (z.1.2.trans h1) (z.1.1.trans h2) z.2 (h3.mono e)
theorem Rel.mono (r : Rel K ρ n σ H) (e : Fra K TT n H m H') (k : ∀ i a xs, Owns ρ σ i a → xs.length ≤ sizeLine → H a = some (OwnO xs a) → sto n a = none → H' a = H a ∧ sto m a = none)
    (k2 : ∀ (i : Nat) (C x dx : Addr) (ks : List Str) (ds : List Dat) (xs : List V), ρ[i]? = some (Sl.ins x C ks ds) → H x = some (HidX C dx x) → H dx = some (OwnS (.ins ks) xs dx) → sto n x = none → sto n dx = none → (H' dx = H dx ∧ H' x = H x) ∧ sto m x = none ∧ sto m dx = none) : Rel K ρ m σ H' :=
  ⟨r.len, fun i s h => by
    obtain ⟨o, e1, q⟩ := r.sl i s h
    exact ⟨o, e1, q.mono e (fun a xs ea l h1 hs ⟨ds, hs'⟩ => k i a xs ⟨⟨ds, by rw [h, hs']⟩, by rw [e1, ea]⟩ l h1 hs) fun C x dx ks ds xs eo es h1 h2 => k2 i C x dx ks ds xs (by rw [h, es]) h1 h2⟩, r.ap, e.st r.st⟩
theorem Rel.grow (r : Rel K ρ n σ H) (g : Grow H H') : Rel K ρ n σ H' := r.mono (TT := []) (Fra.grow g) (fun i a xs _ _ h hs => ⟨by rw [g _ _ h, h], hs⟩) fun i C x dx ks ds xs _ hx h s1 s2 => ⟨⟨by rw [g _ _ h, h], by rw [g _ _ hx, hx]⟩, s1, s2⟩
theorem Rel.fre (r : Rel K ρ n σ H) (e : Fre K TT n H m H') : Rel K ρ m σ H' := r.mono e.toFra (fun i a xs _ _ h hs => ⟨by rw [(e.own _ _ h hs).1, h], (e.own _ _ h hs).2⟩) fun i C x dx ks ds xs _ hx h s1 s2 => ⟨⟨by rw [(e.own _ _ h s2).1, h], by rw [(e.own _ _ hx s1).1, hx]⟩, (e.own _ _ hx s1).2, (e.own _ _ h s2).2⟩
theorem Rel.put {i : Nat} {d : Dat} {v : V} (r : Rel K ρ n σ H) (h : Sees K n H v d) : Rel K (ρ.set i (.val d)) n (σ.set i (some v)) H := by
  refine ⟨by simpa using r.len, fun j s e => ?_, fun j k a b ne h1 h2 => ?_, r.st⟩
  · rw [List.getElem?_set] at e
    split at e
    · rename_i hij
      subst hij
      split at e
      · rename_i hl
        cases e
        refine ⟨some v, ?_, .val h⟩
        rw [List.getElem?_set_self (by rw [← r.len]; exact hl)]
      · cases e
    · rename_i hij
      obtain ⟨o, e1, q⟩ := r.sl j s e
      exact ⟨o, by rw [List.getElem?_set_ne hij]; exact e1, q⟩
  · have key : ∀ j a, Owns (ρ.set i (.val d)) (σ.set i (some v)) j a → Owns ρ σ j a := fun j a hq80 => by
      obtain ⟨⟨ds, e1⟩, e2⟩ := hq80
      rw [List.getElem?_set] at e1
      split at e1
      · split at e1 <;> cases e1
      · rename_i hij
        rw [List.getElem?_set_ne hij] at e2
        exact ⟨⟨ds, e1⟩, e2⟩
    exact r.ap j k a b ne (key _ _ h1) (key _ _ h2)
theorem Rel.drop {i : Nat} {o : Option V} (r : Rel K ρ n σ H) : Rel K (ρ.set i .no) n (σ.set i o) H := by
  refine ⟨by simpa using r.len, fun j s e => ?_, fun j k a b ne h1 h2 => ?_, r.st⟩
  · rw [List.getElem?_set] at e
    split at e
    · rename_i hij
      subst hij
      split at e
      · rename_i hl
        cases e
        exact ⟨o, by rw [List.getElem?_set_self (by rw [← r.len]; exact hl)], .no⟩
      · cases e
    · rename_i hij
      obtain ⟨o', e1, q⟩ := r.sl j s e
      exact ⟨o', by rw [List.getElem?_set_ne hij]; exact e1, q⟩
  · have key : ∀ j a, Owns (ρ.set i .no) (σ.set i o) j a → Owns ρ σ j a := fun j a hq80 => by
      obtain ⟨⟨ds, e1⟩, e2⟩ := hq80
      rw [List.getElem?_set] at e1
      split at e1
      · split at e1 <;> cases e1
      · rename_i hij
        rw [List.getElem?_set_ne hij] at e2
        exact ⟨⟨ds, e1⟩, e2⟩
    exact r.ap j k a b ne (key _ _ h1) (key _ _ h2)
theorem Rel.putOwn {i : Nat} {a : Addr} {xs : List V} {ds : List Dat} (r : Rel K ρ n σ H) (l : xs.length ≤ sizeLine) (h : H a = some (OwnO xs a)) (hs : sto n a = none) (d : SeesL K n H xs ds) (no : ∀ j b, j ≠ i → Owns ρ σ j b → b ≠ a) : Rel K (ρ.set i (.own ds)) n (σ.set i (some (.ref a))) H := by
  refine ⟨by simpa using r.len, fun j s e => ?_, fun j k b c ne h1 h2 => ?_, r.st⟩
  · rw [List.getElem?_set] at e
    split at e
    · rename_i hij
      subst hij
      split at e
      · rename_i hl
        cases e
        exact ⟨_, by rw [List.getElem?_set_self (by rw [← r.len]; exact hl)], .own l h hs d⟩
      · cases e
    · rename_i hij
      obtain ⟨o', e1, q⟩ := r.sl j s e
      exact ⟨o', by rw [List.getElem?_set_ne hij]; exact e1, q⟩
  · have key : ∀ j b, Owns (ρ.set i (.own ds)) (σ.set i (some (.ref a))) j b → (j = i ∧ b = a) ∨ (j ≠ i ∧ Owns ρ σ j b) := fun j b hq80 => by
      obtain ⟨⟨es, e1⟩, e2⟩ := hq80
      by_cases hij : i = j
      · subst hij
        rw [List.getElem?_set] at e2
        split at e2
        · split at e2
          · cases e2
            exact .inl ⟨rfl, rfl⟩
          · cases e2
        · rename_i z
          exact absurd rfl z
      · rw [List.getElem?_set_ne hij] at e1 e2
        exact .inr ⟨fun z => hij z.symm, ⟨es, e1⟩, e2⟩
    rcases key _ _ h1 with ⟨rfl, rfl⟩ | ⟨hj, o1⟩
    · rcases key _ _ h2 with ⟨rfl, rfl⟩ | ⟨hk, o2⟩
      · exact absurd rfl ne
      · exact (no _ _ hk o2).symm
    · rcases key _ _ h2 with ⟨rfl, rfl⟩ | ⟨hk, o2⟩
      · exact no _ _ hj o1
      · exact r.ap _ _ _ _ ne o1 o2
end
end Aim
namespace Aim
open PySem PySem.Spec PyProof.Rows L2
open LamX (TabB Tabs CodeO)
open Stt (cnt sto)
variable {S : Type} [Stt S]
abbrev GRX (S : Type) := Addr → Dat → S → Prop
abbrev RX := GRX Nat
abbrev R0 {S : Type} : GRX S := fun _ _ _ => False
abbrev GDE (S : Type) := List Sl → S → (Dat → S → Prop) → GRX S → Prop
abbrev DE := GDE Nat
abbrev GDT (S : Type) := List Sl → S → (Bool → S → Prop) → GRX S → Prop
abbrev DT := GDT Nat
abbrev GDA (S : Type) := List Sl → S → (List Dat → S → Prop) → GRX S → Prop
structure ExOk (K : PySem.W.Frag) (TT : List (Addr × Str)) (E : XK) (n : S) (H : Hp) (R : GRX S) : Prop where
  tab : Tabs TT H
  ex : ∀ (C : Addr) (d : Dat) (m : S) (dd : Addr) (v : V) (H' : Hp), R C d m → Fra K TT n H m H' → H' dd = some (.xd [("value", v)]) → Sees K m H' v d → E (.ref C) (some dd) H'
structure ExE (K : PySem.W.Frag) (TT : List (Addr × Str)) (E : XK) (n : S) (H : Hp) (R : GRX S) : Prop where
  tab : Tabs TT H
  ex : ∀ (C : Addr) (d : Dat) (m : S) (dd : Addr) (v : V) (H' : Hp), R C d m → Fre K TT n H m H' → H' dd = some (.xd [("value", v)]) → Sees K m H' v d → E (.ref C) (some dd) H'
theorem ExOk.toE {K : PySem.W.Frag} {TT : List (Addr × Str)} {E : XK} {n : S} {H : Hp} {R : GRX S} (x : ExOk K TT E n H R) : ExE K TT E n H R := ⟨x.tab, fun C d m dd v H' r f => x.ex C d m dd v H' r f.toFra⟩
section
variable (K : PySem.W.Frag) (TT : List (Addr × Str)) (E : XK)
def LE (f : GDE S) : TE := fun σ H Q => ∃ ρ n P R, Rel K ρ n σ H ∧ f ρ n P R ∧ (∀ d m v H', P d m → Fre K TT n H m H' → Sees K m H' v d → Q v H') ∧ ExE K TT E n H R
def LTs (f : GDT S) : L2.TT := fun σ H Q => ∃ ρ n P R, Rel K ρ n σ H ∧ f ρ n P R ∧ (∀ b m H', P b m → Fre K TT n H m H' → Q b H') ∧ ExE K TT E n H R
def LA (f : GDA S) : TA := fun σ H Q => ∃ ρ n P R, Rel K ρ n σ H ∧ f ρ n P R ∧ (∀ ds m vs H', P ds m → Fre K TT n H m H' → SeesL K m H' vs ds → Q vs H') ∧ ExE K TT E n H R
end
section
variable {K : PySem.W.Frag} {TT : List (Addr × Str)} {E : XK} {X : Cx}
theorem ExOk.mono {n m : S} {H H1 : Hp} {R : GRX S} (x : ExOk K TT E n H R) (f : Fra K TT n H m H1) : ExOk K TT E m H1 R := ⟨f.tab x.tab, fun C d k dd v H' r g => x.ex C d k dd v H' r (f.trans g)⟩
theorem ExOk.zero {n : S} {H : Hp} (t : Tabs TT H) : ExOk K TT E n H R0 := ⟨t, fun _ _ _ _ _ _ z => z.elim⟩
theorem ExE.mono {n m : S} {H H1 : Hp} {R : GRX S} (x : ExE K TT E n H R) (f : Fre K TT n H m H1) : ExE K TT E m H1 R := ⟨f.tab x.tab, fun C d k dd v H' r g => x.ex C d k dd v H' r (f.trans g)⟩
theorem ExE.zero {n : S} {H : Hp} (t : Tabs TT H) : ExE K TT E n H R0 := ⟨t, fun _ _ _ _ _ _ z => z.elim⟩
theorem _root_.L2.PE.imp {e : Expr} {t t' : TE} (h : PE X e t) (i : ∀ σ H Q, t' σ H Q → t σ H Q) : PE X e t' := ⟨fun pins s σ H Q I q => h.run pins s σ H Q I (i _ _ _ q)⟩
theorem _root_.L2.PT.imp {e : Expr} {t t' : L2.TT} (h : PT X e t) (i : ∀ σ H Q, t' σ H Q → t σ H Q) : PT X e t' := ⟨fun pins s σ H Q I q => h.run pins s σ H Q I (i _ _ _ q)⟩
theorem _root_.L2.PW.imp {e : Expr} {t t' : L2.TT} (h : PW X e t) (i : ∀ σ H Q, t' σ H Q → t σ H Q) : PW X e t' := ⟨fun w pins s σ H Q I q => h.run w pins s σ H Q I (i _ _ _ q)⟩
theorem _root_.L2.PA.imp {e : List Expr} {t t' : TA} (h : PA X e t) (i : ∀ σ H Q, t' σ H Q → t σ H Q) : PA X e t' := ⟨fun p pins s σ H Q I q => h.run p pins s σ H Q I (i _ _ _ q)⟩
theorem _root_.L2.PS.imp {e : Stmt} {t t' : TS} (h : PS X e t) (i : ∀ D σ H, t' D σ H → t D σ H) : PS X e t' := ⟨fun pins s σ H Q I q => h.run pins s σ H Q I (i _ _ _ q)⟩
theorem _root_.L2.PSs.imp {e : List Stmt} {t t' : TS} (h : PSs X e t) (i : ∀ D σ H, t' D σ H → t D σ H) : PSs X e t' := ⟨fun pins s σ H Q I q => h.run pins s σ H Q I (i _ _ _ q)⟩
theorem _root_.L2.PO.imp {e : Option Expr} {t t' : TO} (h : PO X e t) (i : ∀ σ H Q, t' σ H Q → t σ H Q) : PO X e t' := ⟨fun pins s σ H Q I q => h.run pins s σ H Q I (i _ _ _ q)⟩
def slV : Sl → (Dat → Prop) → Prop
  | .val d, P => P d
  | _, _ => False
def slAt (ρ : List Sl) (i : Nat) : Sl := (ρ[i]?).getD .no
theorem slAt_of {ρ : List Sl} {i : Nat} {s : Sl} (h : slAt ρ i = s) (n : s ≠ .no) : ρ[i]? = some s := by
  unfold slAt at h
  cases e : ρ[i]? with
  | none => rw [e] at h; exact absurd h.symm n
  | some z => rw [e] at h; rw [← h]; rfl
def dVar (i : Nat) : GDE S := fun ρ n P _ => slV (slAt ρ i) fun d => P d n
def dC (d : Dat) : GDE S := fun _ n P _ => P d n
theorem de_var {i : Nat} {e : Expr} (h : PE X e (tVar i)) : PE X e (LE (S := S) K TT E (dVar i)) := h.imp fun σ H Q hq80 => by
  obtain ⟨ρ, n, P, R, r, f, k, _⟩ := hq80
  unfold dVar at f
  cases e : slAt ρ i with
  | val d =>
    rw [e] at f
    obtain ⟨v, h1, h2⟩ := r.var (slAt_of e (by simp))
    exact ⟨v, h1, k d n v H f .refl h2⟩
  | _ => rw [e] at f; exact f.elim
theorem de_c {e : Expr} {v : V} {d : Dat} (h : PE X e (tC v)) (s : ∀ (n : S) H, Sees K n H v d) : PE X e (LE (S := S) K TT E (dC d)) := h.imp fun σ H Q hz7 => ex8 hz7 fun ρ n P R r f k _ => k d n v H f .refl (s n H)
theorem de_int {i j pos} : PE X (.Constant (.int i) j pos) (LE (S := S) K TT E (dC (.int i))) := de_c pe_int fun _ _ => .int i
theorem de_bl {b j pos} : PE X (.Constant (.bool b) j pos) (LE (S := S) K TT E (dC (.bl b))) := de_c pe_bl fun _ _ => .bl b
theorem de_non {j pos} : PE X (.Constant .none j pos) (LE (S := S) K TT E (dC .non)) := de_c pe_non fun _ _ => .non
theorem de_str {x : Str} {j pos} (l : StrB x := by exact ⟨by decide +kernel, by decide +kernel⟩) : PE X (.Constant (.str x) j pos) (LE (S := S) K TT E (dC (.str x))) := de_c pe_str fun _ _ => .str x l
abbrev G2 := Dat → Dat → (Dat → Prop) → Prop
def OpD (K : PySem.W.Frag) (r : R2) (g : G2) : Prop := ∀ {U : Type} [Stt U] (n : U) (x y : V) (d e : Dat) (H : Hp) (Q : VK) (P : Dat → Prop), g d e P → Sees K n H x d → Sees K n H y e → (∀ z v H', P z → Grow H H' → Sees K n H' v z → Q v H') → r x y H Q
def dOp (g : G2) (fa fb : GDE S) : GDE S := fun ρ n P R => fa ρ n (fun d m => fb ρ m (fun e k => g d e fun z => P z k) R) R
theorem LE.op {r : R2} {g : G2} (o : OpD K r g) {fa fb : GDE S} {σ : L2.St} {H : Hp} {Q : VK} (h : LE K TT E (dOp g fa fb) σ H Q) : tOp r (LE K TT E fa) (LE K TT E fb) σ H Q := by
  obtain ⟨ρ, n, P, R, rl, f, k, x⟩ := h
  refine ⟨ρ, n, _, R, rl, f, fun d m v H1 q1 e1 s1 => ⟨ρ, m, _, R, rl.fre e1, q1, fun e j u H2 q2 e2 s2 => ?_, x.mono e1⟩, x⟩
  exact o j v u d e H2 Q _ q2 (s1.mono e2.toFra) s2 fun z w H3 p g3 s3 => k z j w H3 p ((e1.trans e2).trans (.grow g3)) s3
theorem de_op {f : Operator} {r : R2} {g : G2} {a b : Expr} {fa fb : GDE S} {pos : Pos} (ho : OpR X (binaryOp f) r) (o : OpD K r g) (ha : PE X a (LE K TT E fa)) (hb : PE X b (LE K TT E fb)) : PE X (.BinOp a f b pos) (LE K TT E (dOp g fa fb)) := (pe_op ho ha hb).imp fun _ _ _ h => h.op o
theorem de_cmp {op : CmpOp} {r : R2} {g : G2} {a b : Expr} {fa fb : GDE S} {pos : Pos} (ho : OpR X (compareOp op) r) (o : OpD K r g) (ha : PE X a (LE K TT E fa)) (hb : PE X b (LE K TT E fb)) (hm : behindInMarks op b = false) : PE X (.Compare a [op] [b] pos) (LE K TT E (dOp g fa fb)) := (pe_cmpR ho ha hb hm).imp fun _ _ _ h => h.op o
def asB : Dat → (Bool → Prop) → Prop
  | .bl b, P => P b
  | _, _ => False
def dTst (f : GDE S) : GDT S := fun ρ n P R => f ρ n (fun d m => asB d fun b => P b m) R
theorem asB_of {d : Dat} {P : Bool → Prop} (h : asB d P) : ∃ b, d = .bl b ∧ P b := by
  cases d with
  | bl b => exact ⟨b, rfl, h⟩
  | _ => exact h.elim
theorem LTs.tst {f : GDE S} {σ : L2.St} {H : Hp} {Q : Bool → Hp → Prop} (h : LTs K TT E (dTst f) σ H Q) : LE K TT E f σ H fun x H' => ∃ k, x = .bl k ∧ Q k H' := by
  obtain ⟨ρ, n, P, R, rl, f, k, x⟩ := h
  refine ⟨ρ, n, _, R, rl, f, fun d m v H1 q1 e1 s1 => ?_, x⟩
  obtain ⟨b, rfl, p⟩ := asB_of q1
  exact ⟨b, s1.bl_iff, k b m H1 p e1⟩
theorem dt_val {e : Expr} {f : GDE S} (h : PE X e (LE K TT E f)) (he : ∀ whole, isTrue e X.env whole = (do let v ← whole; standAt e.pos; holding [v] (truthy v)) := by intro _; rfl) : PT X e (LTs K TT E (dTst f)) := (pt_val h he).imp fun _ _ _ q => q.tst
theorem dt_cmp {op : CmpOp} {r : R2} {g : G2} {a b : Expr} {fa fb : GDE S} {pos : Pos} (ho : OpR X (compareOp op) r) (o : OpD K r g) (ha : PE X a (LE K TT E fa)) (hb : PE X b (LE K TT E fb)) (hm : behindInMarks op b = false) : PT X (.Compare a [op] [b] pos) (LTs K TT E (dTst (dOp g fa fb))) :=
  (pt_cmpR ho ha hb hm).imp fun _ _ _ h => by
    have q := h.tst
    exact q.op o
def isNon : Dat → Bool
  | .non => true
  | _ => false
theorem Sees.isNon {n : S} {H : Hp} {v : V} {d : Dat} (h : Sees K n H v d) : decide (v = .non) = isNon d := by cases h <;> simp [Aim.isNon]
def dUn (g : Dat → (Dat → Prop) → Prop) (f : GDE S) : GDE S := fun ρ n P R => f ρ n (fun d m => g d fun z => P z m) R
def gIsN : Dat → (Dat → Prop) → Prop := fun d P => P (.bl (isNon d))
def gNotN : Dat → (Dat → Prop) → Prop := fun d P => P (.bl (!isNon d))
theorem LE.isN {f : GDE S} {σ : L2.St} {H : Hp} {Q : VK} (h : LE K TT E (dUn gIsN f) σ H Q) : tIsN (LE K TT E f) σ H Q := by
  obtain ⟨ρ, n, P, R, rl, f, k, x⟩ := h
  refine ⟨ρ, n, _, R, rl, f, fun d m v H1 q1 e1 s1 => ?_, x⟩
  show Q (.bl _) H1
  rw [s1.isNon]
  exact k _ m _ H1 q1 e1 (.bl _)
theorem LE.notN {f : GDE S} {σ : L2.St} {H : Hp} {Q : VK} (h : LE K TT E (dUn gNotN f) σ H Q) : tNotN (LE K TT E f) σ H Q := by
  obtain ⟨ρ, n, P, R, rl, f, k, x⟩ := h
  refine ⟨ρ, n, _, R, rl, f, fun d m v H1 q1 e1 s1 => ?_, x⟩
  show Q (.bl _) H1
  rw [s1.isNon]
  exact k _ m _ H1 q1 e1 (.bl _)
theorem de_isN {a : Expr} {f : GDE S} {j p pos} (h : PE X a (LE K TT E f)) : PE X (.Compare a [.Is] [.Constant .none j p] pos) (LE K TT E (dUn gIsN f)) := (pe_cmp (pc_isN h)).imp fun _ _ _ h => h.isN
theorem dt_notN {a : Expr} {f : GDE S} {j p pos} (h : PE X a (LE K TT E f)) : PT X (.Compare a [.IsNot] [.Constant .none j p] pos) (LTs K TT E (dTst (dUn gNotN f))) := (pt_cmp (pc_notN h)).imp fun _ _ _ h => by
  have q := h.tst
  exact q.notN
def dAndT (a b : GDT S) : GDT S := fun ρ n P R => a ρ n (fun c m => if c = true then b ρ m P R else P false m) R
def dOrT (a b : GDT S) : GDT S := fun ρ n P R => a ρ n (fun c m => if c = true then P true m else b ρ m P R) R
def dNotT (a : GDT S) : GDT S := fun ρ n P R => a ρ n (fun c m => P (!c) m) R
def dIf (t : GDT S) (a b : GDE S) : GDE S := fun ρ n P R => t ρ n (fun c m => if c = true then a ρ m P R else b ρ m P R) R
def dAnd (a b : GDE S) : GDE S := fun ρ n P R => a ρ n (fun d m => asB d fun c => if c = true then b ρ m P R else P (.bl false) m) R
def dOr (a b : GDE S) : GDE S := fun ρ n P R => a ρ n (fun d m => asB d fun c => if c = true then P (.bl true) m else b ρ m P R) R
def dNot (a : GDE S) : GDE S := fun ρ n P R => a ρ n (fun d m => asB d fun c => P (.bl (!c)) m) R
variable {a b : Expr} {rest : List Expr} {fa fb : GDE S} {ta tb : GDT S} {pos : Pos}
theorem dw_and1 (ha : PT X a (LTs K TT E ta)) : PW X (.BoolOp .And [a] pos) (LTs K TT E ta) := pw_and1 ha
theorem dw_or1 (ha : PT X a (LTs K TT E ta)) : PW X (.BoolOp .Or [a] pos) (LTs K TT E ta) := pw_or1 ha
theorem dw_and (ha : PT X a (LTs K TT E ta)) (hb : PW X (.BoolOp .And (b :: rest) pos) (LTs K TT E tb)) : PW X (.BoolOp .And (a :: b :: rest) pos) (LTs K TT E (dAndT ta tb)) := (pw_and ha hb).imp fun σ H Q h => by
  obtain ⟨ρ, n, P, R, rl, f, k, x⟩ := h
  refine ⟨ρ, n, _, R, rl, f, fun c m H1 q1 e1 => ?_, x⟩
  cases c with
  | true => exact ⟨ρ, m, _, R, rl.fre e1, q1, fun c2 j H2 q2 e2 => k c2 j H2 q2 (e1.trans e2), x.mono e1⟩
  | false => exact k _ m H1 q1 e1
theorem dw_or (ha : PT X a (LTs K TT E ta)) (hb : PW X (.BoolOp .Or (b :: rest) pos) (LTs K TT E tb)) : PW X (.BoolOp .Or (a :: b :: rest) pos) (LTs K TT E (dOrT ta tb)) := (pw_or ha hb).imp fun σ H Q h => by
  obtain ⟨ρ, n, P, R, rl, f, k, x⟩ := h
  refine ⟨ρ, n, _, R, rl, f, fun c m H1 q1 e1 => ?_, x⟩
  cases c with
  | false => exact ⟨ρ, m, _, R, rl.fre e1, q1, fun c2 j H2 q2 e2 => k c2 j H2 q2 (e1.trans e2), x.mono e1⟩
  | true => exact k _ m H1 q1 e1
theorem dt_not (ha : PT X a (LTs K TT E ta)) : PT X (.UnaryOp .Not a pos) (LTs K TT E (dNotT ta)) := (pt_not ha).imp fun σ H Q h => by
  obtain ⟨ρ, n, P, R, rl, f, k, x⟩ := h
  exact ⟨ρ, n, _, R, rl, f, fun c m H1 q1 e1 => k _ m H1 q1 e1, x⟩
theorem de_if {c : Expr} (hc : PT X c (LTs K TT E ta)) (ha : PE X a (LE K TT E fa)) (hb : PE X b (LE K TT E fb)) : PE X (.IfExp c a b pos) (LE K TT E (dIf ta fa fb)) := (pe_ifExp hc ha hb).imp fun σ H Q h => by
  obtain ⟨ρ, n, P, R, rl, f, k, x⟩ := h
  refine ⟨ρ, n, _, R, rl, f, fun c m H1 q1 e1 => ?_, x⟩
  cases c with
  | true => exact ⟨ρ, m, _, R, rl.fre e1, q1, fun d j v H2 q2 e2 s2 => k d j v H2 q2 (e1.trans e2) s2, x.mono e1⟩
  | false => exact ⟨ρ, m, _, R, rl.fre e1, q1, fun d j v H2 q2 e2 s2 => k d j v H2 q2 (e1.trans e2) s2, x.mono e1⟩
theorem de_and (ha : PE X a (LE K TT E fa)) (hb : PE X (.BoolOp .And (b :: rest) pos) (LE K TT E fb)) : PE X (.BoolOp .And (a :: b :: rest) pos) (LE K TT E (dAnd fa fb)) := (pe_and ha hb).imp fun σ H Q h => by
  obtain ⟨ρ, n, P, R, rl, f, k, x⟩ := h
  refine ⟨ρ, n, _, R, rl, f, fun d m v H1 q1 e1 s1 => ?_, x⟩
  obtain ⟨c, rfl, q⟩ := asB_of q1
  refine ⟨c, s1.bl_iff, ?_⟩
  cases c with
  | true => exact ⟨ρ, m, _, R, rl.fre e1, q, fun d j v H2 q2 e2 s2 => k d j v H2 q2 (e1.trans e2) s2, x.mono e1⟩
  | false => exact k _ m _ H1 q e1 (.bl _)
theorem de_or (ha : PE X a (LE K TT E fa)) (hb : PE X (.BoolOp .Or (b :: rest) pos) (LE K TT E fb)) : PE X (.BoolOp .Or (a :: b :: rest) pos) (LE K TT E (dOr fa fb)) := (pe_or ha hb).imp fun σ H Q h => by
  obtain ⟨ρ, n, P, R, rl, f, k, x⟩ := h
  refine ⟨ρ, n, _, R, rl, f, fun d m v H1 q1 e1 s1 => ?_, x⟩
  obtain ⟨c, rfl, q⟩ := asB_of q1
  refine ⟨c, s1.bl_iff, ?_⟩
  cases c with
  | false => exact ⟨ρ, m, _, R, rl.fre e1, q, fun d j v H2 q2 e2 s2 => k d j v H2 q2 (e1.trans e2) s2, x.mono e1⟩
  | true => exact k _ m _ H1 q e1 (.bl _)
theorem de_one {op} (h : PE X a (LE K TT E fa)) : PE X (.BoolOp op [a] pos) (LE K TT E fa) := pe_one h
theorem de_not (ha : PE X a (LE K TT E fa)) : PE X (.UnaryOp .Not a pos) (LE K TT E (dNot fa)) := (pe_not ha).imp fun σ H Q h => by
  obtain ⟨ρ, n, P, R, rl, f, k, x⟩ := h
  refine ⟨ρ, n, _, R, rl, f, fun d m v H1 q1 e1 s1 => ?_, x⟩
  obtain ⟨c, rfl, q⟩ := asB_of q1
  exact ⟨c, s1.bl_iff, k _ m _ H1 q e1 (.bl _)⟩
def dChain (g g' : G2) (fa fb fc : GDE S) : GDE S := fun ρ n P R => fa ρ n (fun d m => fb ρ m (fun e k => g d e fun z => asB z fun c => if c = true then fc ρ k (fun w j => g' e w fun y => P y j) R else P (.bl false) k) R) R
theorem LE.chain {r r' : R2} {g g' : G2} (o : OpD K r g) (o' : OpD K r' g') {fa fb fc : GDE S} {σ : L2.St} {H : Hp} {Q : VK} (h : LE K TT E (dChain g g' fa fb fc) σ H Q) : tChain r r' (LE K TT E fa) (LE K TT E fb) (LE K TT E fc) σ H Q := by
  obtain ⟨ρ, n, P, R, rl, f, k, x⟩ := h
  refine ⟨ρ, n, _, R, rl, f, fun d m v H1 q1 e1 s1 => ⟨ρ, m, _, R, rl.fre e1, q1, fun e j u H2 q2 e2 s2 => ?_, x.mono e1⟩, x⟩
  refine o j v u d e H2 _ _ q2 (s1.mono e2.toFra) s2 fun z w H3 p g3 s3 => ?_
  obtain ⟨c, rfl, q⟩ := asB_of p
  have e3 : Fre K TT n H j H3 := (e1.trans e2).trans (.grow g3)
  refine ⟨c, s3.bl_iff, ?_⟩
  cases c with
  | false => exact k _ j _ H3 q e3 (.bl _)
  | true =>
    refine ⟨ρ, j, _, R, rl.fre e3, q, fun w2 i y H4 q4 e4 s4 => ?_, x.mono e3⟩
    exact o' i u y e w2 H4 Q _ q4 ((s2.grow g3).mono e4.toFra) s4 fun z w H5 p g5 s5 => k z i w H5 p ((e3.trans e4).trans (.grow g5)) s5
theorem de_chain {op op' : CmpOp} {r r' : R2} {g g' : G2} {c : Expr} {fc : GDE S} (ho : OpR X (compareOp op) r) (ho' : OpR X (compareOp op') r') (o : OpD K r g) (o' : OpD K r' g') (ha : PE X a (LE K TT E fa)) (hb : PE X b (LE K TT E fb)) (hc : PE X c (LE K TT E fc))
    (hm : lastMarks [op, op'] [b, c] = false := by with_unfolding_all rfl) : PE X (.Compare a [op, op'] [b, c] pos) (LE K TT E (dChain g g' fa fb fc)) := (pe_chain ho ho' ha hb hc hm).imp fun _ _ _ h => h.chain o o'
theorem dt_chain {op op' : CmpOp} {r r' : R2} {g g' : G2} {c : Expr} {fc : GDE S} (ho : OpR X (compareOp op) r) (ho' : OpR X (compareOp op') r') (o : OpD K r g) (o' : OpD K r' g') (ha : PE X a (LE K TT E fa)) (hb : PE X b (LE K TT E fb)) (hc : PE X c (LE K TT E fc))
    (hm : lastMarks [op, op'] [b, c] = false := by with_unfolding_all rfl) : PT X (.Compare a [op, op'] [b, c] pos) (LTs K TT E (dTst (dChain g g' fa fb fc))) := (pt_chain ho ho' ha hb hc hm).imp fun _ _ _ h => by
  have q := h.tst
  exact q.chain o o'
def dNil : GDA S := fun _ n P _ => P [] n
def dCons (f : GDE S) (r : GDA S) : GDA S := fun ρ n P R => f ρ n (fun d m => r ρ m (fun ds k => P (d :: ds) k) R) R
variable {e : Expr} {es : List Expr} {fr : GDA S}
theorem da_nil : PA X [] (LA (S := S) K TT E dNil) := pa_nil.imp fun σ H Q hz7 => ex8 hz7 fun ρ n P R rl f k x => k [] n [] H f .refl .nil
theorem da_cons (ha : PE X e (LE K TT E fa)) (hr : PA X es (LA K TT E fr)) (hs : starEach (e :: es) X.env = (false, eval e X.env) :: starEach es X.env := by rfl) : PA X (e :: es) (LA K TT E (dCons fa fr)) := (pa_cons ha hr hs).imp fun σ H Q hz7 => ex8 hz7 fun ρ n P R rl f k x =>
  ⟨ρ, n, _, R, rl, f, fun d m v H1 q1 e1 s1 => ⟨ρ, m, _, R, rl.fre e1, q1, fun ds j vs H2 q2 e2 s2 => k (d :: ds) j (v :: vs) H2 q2 (e1.trans e2) (.cons (s1.mono e2.toFra) s2), x.mono e1⟩, x⟩
def dTup (t : GDA S) : GDE S := fun ρ n P R => t ρ n (fun ds m => ds.length ≤ sizeLine ∧ P (.tup ds) m) R
def dLst (t : GDA S) : GDE S := fun ρ n P R => t ρ n (fun ds m => ds.length ≤ sizeLine ∧ P (.lst ds) m) R
theorem de_tup {x1} (h : PA X es (LA K TT E fr)) : PE X (.Tuple es x1 pos) (LE K TT E (dTup fr)) := (pe_tupN h).imp fun σ H Q hz7 => ex8 hz7 fun ρ n P R rl f k x =>
  ⟨ρ, n, _, R, rl, f, fun ds m vs H1 q1 e1 s1 => ⟨by rw [s1.length]; exact q1.1, fun p o hp ho => k _ m _ _ q1.2 (e1.trans (.grow (.new hp))) (.newT hp ho (by rw [s1.length]; exact q1.1) s1)⟩, x⟩
theorem de_lst (h : PA X es (LA K TT E fr)) : PE X (.List es pos) (LE K TT E (dLst fr)) := (pe_lst h).imp fun σ H Q hz7 => ex8 hz7 fun ρ n P R rl f k x =>
  ⟨ρ, n, _, R, rl, f, fun ds m vs H1 q1 e1 s1 => ⟨by rw [s1.length]; exact q1.1, fun p hp => k _ m _ _ q1.2 (e1.trans (.grow (.new hp))) (.newL hp (by rw [s1.length]; exact q1.1) s1)⟩, x⟩
abbrev GA := List Dat → (Dat → Prop) → Prop
def CallD (K : PySem.W.Frag) (r : List V → Hp → VK → Prop) (g : GA) : Prop := ∀ {U : Type} [Stt U] (n : U) (vs : List V) (ds : List Dat) (H : Hp) (Q : VK) (P : Dat → Prop), g ds P → SeesL K n H vs ds → (∀ z v H', P z → Grow H H' → Sees K n H' v z → Q v H') → r vs H Q
def dCB (g : GA) (t : GDA S) : GDE S := fun ρ n P R => t ρ n (fun ds m => g ds fun z => P z m) R
theorem LE.cb {r : List V → Hp → VK → Prop} {g : GA} (o : CallD K r g) {σ : L2.St} {H : Hp} {Q : VK} (h : LE K TT E (dCB g fr) σ H Q) : tCB r (LA K TT E fr) σ H Q := by
  obtain ⟨ρ, n, P, R, rl, f, k, x⟩ := h
  exact ⟨ρ, n, _, R, rl, f, fun ds m vs H1 q1 e1 s1 => o m vs ds H1 Q _ q1 s1 fun z v H2 p g2 s2 => k z m v H2 p (e1.trans (.grow g2)) s2, x⟩
theorem de_cb {r : List V → Hp → VK → Prop} {g : GA} (o : CallD K r g) (h : PE X e (tCB r (LA K TT E fr))) : PE X e (LE K TT E (dCB g fr)) := h.imp fun _ _ _ q => q.cb o
abbrev GM := Dat → List Dat → (Dat → Prop) → Prop
def MethD (K : PySem.W.Frag) (T : String) (r : V → List V → Hp → VK → Prop) (g : GM) : Prop := ∀ {U : Type} [Stt U] (n : U) (x : V) (d : Dat) (vs : List V) (ds : List Dat) (H : Hp) (Q : VK) (P : Dat → Prop), g d ds P → Sees K n H x d → SeesL K n H vs ds → (∀ z v H', P z → Grow H H' → Sees K n H' v z → Q v H') → r x vs H Q
def TyD (K : PySem.W.Frag) (T : String) (ok : Dat → Bool) : Prop := ∀ {U : Type} [Stt U] (n : U) (x : V) (d : Dat) (H : Hp), Sees K n H x d → ok d = true → tyV K T x H
def dBM (ok : Dat → Bool) (g : GM) (fo : GDE S) (t : GDA S) : GDE S := fun ρ n P R => fo ρ n (fun d m => ok d = true ∧ t ρ m (fun ds k => g d ds fun z => P z k) R) R
theorem LE.bm {T : String} {r : V → List V → Hp → VK → Prop} {g : GM} {ok : Dat → Bool} (o : MethD K T r g) (ty : TyD K T ok) {fo : GDE S} {σ : L2.St} {H : Hp} {Q : VK} (h : LE K TT E (dBM ok g fo fr) σ H Q) : tBM K T r (LE K TT E fo) (LA K TT E fr) σ H Q := by
  obtain ⟨ρ, n, P, R, rl, f, k, x⟩ := h
  refine ⟨ρ, n, _, R, rl, f, fun d m v H1 q1 e1 s1 => ⟨ty m v d H1 s1 q1.1, ρ, m, _, R, rl.fre e1, q1.2, fun ds j vs H2 q2 e2 s2 => ?_, x.mono e1⟩, x⟩
  exact o j v d vs ds H2 Q _ q2 (s1.mono e2.toFra) s2 fun z w H3 p g3 s3 => k z j w H3 p ((e1.trans e2).trans (.grow g3)) s3
theorem de_ix {r : R2} {g : G2} (hi : IxR X r) (o : OpD K r g) (ha : PE X a (LE K TT E fa)) (hb : PE X b (LE K TT E fb)) (hs : PlainIx b) : PE X (.Subscript a b pos) (LE K TT E (dOp g fa fb)) := (pe_ix hi ha hb hs).imp fun _ _ _ h => h.op o
abbrev GDO (S : Type) := List Sl → S → (Option Int → S → Prop) → GRX S → Prop
def LO (K : PySem.W.Frag) (TT : List (Addr × Str)) (E : XK) (f : GDO S) : TO := fun σ H Q => ∃ ρ n P R, Rel K ρ n σ H ∧ f ρ n P R ∧ (∀ i m H', P i m → Fre K TT n H m H' → Q i H') ∧ ExE K TT E n H R
def asI : Dat → (Int → Prop) → Prop
  | .int i, P => P i
  | _, _ => False
theorem asI_of {d : Dat} {P : Int → Prop} (h : asI d P) : ∃ b, d = .int b ∧ P b := by
  cases d with
  | int b => exact ⟨b, rfl, h⟩
  | _ => exact h.elim
def dNone : GDO S := fun _ n P _ => P none n
def dSome (f : GDE S) : GDO S := fun ρ n P R => f ρ n (fun d m => asI d fun i => P (some i) m) R
theorem do_none : PO X none (LO (S := S) K TT E dNone) := po_none.imp fun σ H Q hz7 => ex8 hz7 fun ρ n P R rl f k x => k none n H f .refl
theorem do_some (h : PE X a (LE K TT E fa)) : PO X (some a) (LO K TT E (dSome fa)) := (po_some h).imp fun σ H Q hz7 => ex8 hz7 fun ρ n P R rl f k x => ⟨ρ, n, _, R, rl, f, fun d m v H1 q1 e1 s1 => by
  obtain ⟨i, rfl, q⟩ := asI_of q1
  exact ⟨i, s1.int_iff, k (some i) m H1 q e1⟩, x⟩
abbrev GS := Dat → Option Int → Option Int → (Dat → Prop) → Prop
def SlD (K : PySem.W.Frag) (r : V → Option Int → Option Int → Hp → VK → Prop) (g : GS) : Prop := ∀ {U : Type} [Stt U] (n : U) (x : V) (d : Dat) (lo hi : Option Int) (H : Hp) (Q : VK) (P : Dat → Prop), g d lo hi P → Sees K n H x d → (∀ z v H', P z → Grow H H' → Sees K n H' v z → Q v H') → r x lo hi H Q
def dSl (g : GS) (f : GDE S) (l u : GDO S) : GDE S := fun ρ n P R => f ρ n (fun d m => l ρ m (fun lo k => u ρ k (fun hi j => g d lo hi fun z => P z j) R) R) R
theorem LE.sl {r : V → Option Int → Option Int → Hp → VK → Prop} {g : GS} (o : SlD K r g) {l u : GDO S} {σ : L2.St} {H : Hp} {Q : VK} (h : LE K TT E (dSl g fa l u) σ H Q) : tSl r (LE K TT E fa) (LO K TT E l) (LO K TT E u) σ H Q := by
  obtain ⟨ρ, n, P, R, rl, f, k, x⟩ := h
  refine ⟨ρ, n, _, R, rl, f, fun d m v H1 q1 e1 s1 => ⟨ρ, m, _, R, rl.fre e1, q1, fun lo j H2 q2 e2 => ⟨ρ, j, _, R, (rl.fre e1).fre e2, q2, fun hi i H3 q3 e3 => ?_, x.mono (e1.trans e2)⟩, x.mono e1⟩, x⟩
  exact o i v d lo hi H3 Q _ q3 (s1.mono (e2.trans e3).toFra) fun z w H4 p g4 s4 => k z i w H4 p (((e1.trans e2).trans e3).trans (.grow g4)) s4
end
end Aim
namespace Aim
open PySem PySem.Spec PyProof.Rows L2
open LamX (TabB Tabs CodeO)
open Stt (cnt sto)
variable {S : Type} [Stt S]
structure GDN (S : Type) where
  nx : List Sl → S → Prop
  rt : Dat → S → Prop
  bk : List Sl → S → Prop := fun _ _ => False
  ct : List Sl → S → Prop := fun _ _ => False
  ex : GRX S
abbrev GDS (S : Type) := GDN S → List Sl → S → Prop
abbrev DS := GDS Nat
abbrev DN := GDN Nat
structure Ok (K : PySem.W.Frag) (TT : List (Addr × Str)) (E : XK) (n : S) (H : Hp) (P : GDN S) (D : Ends) : Prop where
  nx : ∀ ρ m σ H', P.nx ρ m → Fra K TT n H m H' → Rel K ρ m σ H' → D.nx σ H'
  rt : ∀ d m v H', P.rt d m → Fra K TT n H m H' → Sees K m H' v d → D.rt v H'
  bk : ∀ ρ m σ H', P.bk ρ m → Fra K TT n H m H' → Rel K ρ m σ H' → D.bk σ H'
  ct : ∀ ρ m σ H', P.ct ρ m → Fra K TT n H m H' → Rel K ρ m σ H' → D.ct σ H'
  ex : ExOk K TT E n H P.ex
def LS (K : PySem.W.Frag) (TT : List (Addr × Str)) (E : XK) (g : GDS S) : TS := fun D σ H => ∃ ρ n P, Rel K ρ n σ H ∧ g P ρ n ∧ Ok K TT E n H P D
section
variable {K : PySem.W.Frag} {TT : List (Addr × Str)} {E : XK} {X : Cx}
theorem Ok.mono {n m : S} {H H1 : Hp} {P : GDN S} {D : Ends} (k : Ok K TT E n H P D) (f : Fra K TT n H m H1) : Ok K TT E m H1 P D :=
  ⟨fun ρ j σ H' p g r => k.nx ρ j σ H' p (f.trans g) r, fun d j v H' p g r => k.rt d j v H' p (f.trans g) r, fun ρ j σ H' p g r => k.bk ρ j σ H' p (f.trans g) r, fun ρ j σ H' p g r => k.ct ρ j σ H' p (f.trans g) r, k.ex.mono f⟩
variable {a b : Expr} {st : Stmt} {sts : List Stmt} {fa fb : GDE S} {ta tb : GDT S} {g g1 g2 : GDS S} {pos : Pos}
def dSeq (g1 g2 : GDS S) : GDS S := fun P ρ n => g1 { P with nx := g2 P } ρ n
def dEnd : GDS S := fun P ρ n => P.nx ρ n
theorem dss_nil : PSs X [] (LS (S := S) K TT E dEnd) := pss_nil.imp fun D σ H hz7 => ex6 hz7 fun ρ n P r f k => k.nx ρ n σ H f .refl r
theorem dss_cons (h1 : PS X st (LS K TT E g1)) (h2 : PSs X sts (LS K TT E g2)) : PSs X (st :: sts) (LS K TT E (dSeq g1 g2)) := (pss_cons h1 h2).imp fun D σ H hz7 => ex6 hz7 fun ρ n P r f k =>
  ⟨ρ, n, { P with nx := g2 P }, r, f, ⟨fun ρ' m σ' H' q e r' => ⟨ρ', m, P, r', q, k.mono e⟩, k.rt, k.bk, k.ct, k.ex⟩⟩
theorem dss_one (h1 : PS X st (LS K TT E g1)) : PSs X [st] (LS K TT E g1) := pss_one h1
def dRet (f : GDE S) : GDS S := fun P ρ n => f ρ n P.rt P.ex
def dIfS (t : GDT S) (g1 g2 : GDS S) : GDS S := fun P ρ n => t ρ n (fun c m => if c = true then g1 P ρ m else g2 P ρ m) P.ex
theorem ds_ret (h : PE X a (LE K TT E fa)) : PS X (.Return (some a) pos) (LS K TT E (dRet fa)) := (ps_ret h).imp fun D σ H hz7 => ex6 hz7 fun ρ n P r f k => ⟨ρ, n, P.rt, P.ex, r, f, fun d m v H' q e s => k.rt d m v H' q e.toFra s, k.ex.toE⟩
theorem ds_if {c : Expr} {x y : List Stmt} (hc : PT X c (LTs K TT E ta)) (h1 : PSs X x (LS K TT E g1)) (h2 : PSs X y (LS K TT E g2)) : PS X (.If c x y pos) (LS K TT E (dIfS ta g1 g2)) := (ps_if hc h1 h2).imp fun D σ H hz7 => ex6 hz7 fun ρ n P r f k =>
  ⟨ρ, n, _, P.ex, r, f, fun c m H' q e => by
    cases c with
    | true => exact ⟨ρ, m, P, r.fre e, q, k.mono e.toFra⟩
    | false => exact ⟨ρ, m, P, r.fre e, q, k.mono e.toFra⟩, k.ex.toE⟩
theorem wipe_get {j : Nat} (σ : L2.St) : ∀ l : List Nat, (wipe σ l)[j]? = if j ∈ l then σ[j]?.map (fun _ => none) else σ[j]?
  | [] => by simp [wipe]
  | i :: l => by
    show ((wipe σ l).set i none)[j]? = _
    rw [List.getElem?_set, wipe_get σ l, wipe_length]
    by_cases hij : i = j
    · subst hij
      by_cases hl : i < σ.length
      · simp [hl, List.getElem?_eq_getElem hl]
      · simp [hl, List.getElem?_eq_none (by omega : σ.length ≤ i)]
    · simp only [hij, if_false, List.mem_cons]
      have : j ≠ i := fun z => hij z.symm
      simp [this]
theorem wipe_set {σ : L2.St} {i : Nat} {o : Option V} {l : List Nat} (h : i ∈ l) : wipe (σ.set i o) l = wipe σ l := by
  apply List.ext_getElem?
  intro j
  rw [wipe_get, wipe_get, List.getElem?_set]
  by_cases hj : j ∈ l
  · simp only [hj, if_true]
    by_cases hij : i = j
    · subst hij
      by_cases hl : i < σ.length
      · simp [hl, List.getElem?_eq_getElem hl]
      · simp [hl, List.getElem?_eq_none (by omega : σ.length ≤ i)]
    · simp [hij]
  · simp only [hj, if_false]
    have : i ≠ j := fun z => hj (z ▸ h)
    simp [this]
abbrev DG := Dat → List Sl → (List Sl → Prop) → Prop
abbrev DGs := List Dat → List Sl → (List Sl → Prop) → Prop
def LG (K : PySem.W.Frag) (vs : List Nat) (g : DG) : TG := fun v σ H Q => ∃ ρ, ∃ n : S, ∃ d P, Rel K ρ n σ H ∧ Sees K n H v d ∧ g d ρ P ∧ ∀ ρ' σ', P ρ' → Rel K ρ' n σ' H → (∀ l, (∀ i ∈ vs, i ∈ l) → wipe σ' l = wipe σ l) → Q σ' H
def LGs (K : PySem.W.Frag) (vs : List Nat) (g : DGs) : TGs := fun us σ H Q => ∃ ρ, ∃ n : S, ∃ ds P, Rel K ρ n σ H ∧ SeesL K n H us ds ∧ g ds ρ P ∧ ∀ ρ' σ', P ρ' → Rel K ρ' n σ' H → (∀ l, (∀ i ∈ vs, i ∈ l) → wipe σ' l = wipe σ l) → Q σ' H
theorem _root_.L2.PG.imp {e : Expr} {t t' : TG} (h : PG X e t) (i : ∀ v σ H Q, t' v σ H Q → t v σ H Q) : PG X e t' := ⟨fun pins s σ H v u Q I r q => h.run pins s σ H v u Q I r (i _ _ _ _ q)⟩
theorem _root_.L2.PGs.imp {e : List Expr} {t t' : TGs} (h : PGs X e t) (i : ∀ v σ H Q, t' v σ H Q → t v σ H Q) : PGs X e t' := ⟨fun pins s σ H v u Q I r q => h.run pins s σ H v u Q I r (i _ _ _ _ q)⟩
def dgName (i : Nat) : DG := fun d ρ P => P (ρ.set i (.val d))
def dgNil : DGs := fun ds ρ P => match ds with
  | [] => P ρ
  | _ => False
def dgCons (t : DG) (u : DGs) : DGs := fun ds ρ P => match ds with
  | d :: r => t d ρ fun ρ' => u r ρ' P
  | [] => False
def dgTup (t : DGs) : DG := fun d ρ P => match d with
  | .tup ds => t ds ρ P
  | _ => False
theorem dg_name {i : Nat} {e : Expr} (h : PG X e (gName i)) : PG X e (LG (S := S) K [i] (dgName i)) := h.imp fun v σ H Q hz7 => ex8 hz7 fun ρ n d P r s f k => k _ _ f (r.put s) fun l hl => wipe_set (hl i (by simp))
theorem dgs_nil : PGs X [] (LGs (S := S) K [] dgNil) := pgs_nil.imp fun vs σ H Q hq80 => by
  obtain ⟨ρ, n, ds, P, r, s, f, k⟩ := hq80
  cases s with
  | nil => exact ⟨rfl, k _ _ f r fun l _ => rfl⟩
  | cons _ _ => exact False.elim f
theorem dgs_cons {e : Expr} {es : List Expr} {vs ws : List Nat} {t : DG} {u : DGs} (h1 : PG X e (LG (S := S) K vs t)) (h2 : PGs X es (LGs (S := S) K ws u)) (hs : (assignEach (e :: es) X.env).map (·.2) = assign e X.env :: (assignEach es X.env).map (·.2) := by rfl) : PGs X (e :: es) (LGs (S := S) K (vs ++ ws) (dgCons t u)) := (pgs_cons h1 h2 hs).imp fun us σ H Q hq80 => by
  obtain ⟨ρ, n, ds, P, r, s, f, k⟩ := hq80
  cases s with
  | nil => exact False.elim f
  | cons s1 s2 => exact ⟨_, _, rfl, ρ, n, _, _, r, s1, f, fun ρ1 σ1 f1 r1 w1 => ⟨ρ1, n, _, P, r1, s2, f1, fun ρ2 σ2 f2 r2 w2 => k ρ2 σ2 f2 r2 fun l hl => (w2 l fun i hi => hl i (List.mem_append_right _ hi)).trans (w1 l fun i hi => hl i (List.mem_append_left _ hi))⟩⟩
theorem dg_tup {es : List Expr} {k : Nat} {vs : List Nat} {t : DGs} {n : Nat} (hc : X.calm = true) (h : PGs X es (LGs (S := S) X.K vs t)) (hl : ∀ ds ρ P, t ds ρ P → ds.length = n) (hn : (assignEach es X.env).length = n := by rfl) (hst : (assignEach es X.env).findIdx? (·.1) = none := by rfl) : PG X (.Tuple es k pos) (LG (S := S) X.K vs (dgTup t)) := (pg_tup hc h hn hst).imp fun v σ H Q hq80 => by
  obtain ⟨ρ, m, d, P, r, s, f, k⟩ := hq80
  cases s with
  | tup h1 l h2 => exact ⟨_, _, rfl, h1.sqT, by rw [h2.length]; exact hl _ _ _ f, ρ, m, _, P, r, h2, f, k⟩
  | _ => exact False.elim f
theorem dgl_nil {ds : List Dat} {ρ : List Sl} {P : List Sl → Prop} (h : dgNil ds ρ P) : ds.length = 0 := by
  cases ds with
  | nil => rfl
  | cons _ _ => exact False.elim h
def dAsg (f : GDE S) (g : DG) : GDS S := fun P ρ n => f ρ n (fun d m => g d ρ fun ρ' => P.nx ρ' m) P.ex
theorem LS.asg {vs : List Nat} {g : DG} {D : Ends} {σ : L2.St} {H : Hp} (h : LS K TT E (dAsg fa g) D σ H) : tAsg (LE K TT E fa) (LG (S := S) K vs g) D σ H := by
  obtain ⟨ρ, n, P, r, f, k⟩ := h
  exact ⟨ρ, n, _, P.ex, r, f, fun d m v H1 q e s => ⟨ρ, m, d, _, r.fre e, s, q, fun ρ' σ' q' r' _ => k.nx ρ' m σ' H1 q' e.toFra r'⟩, k.ex.toE⟩
theorem ds_asg {tg : Expr} {vs : List Nat} {g : DG} (he : PE X a (LE K TT E fa)) (hg : PG X tg (LG (S := S) K vs g)) (hs : swapsWithSole [tg] a pos.line X.env = pure false := by rfl) (hw : swappedStores [tg] a X.env = pure none := by rfl)
    (h1 : (assignEach [tg] X.env).map (·.2) = [assign tg X.env] := by rfl) : PS X (.Assign [tg] a pos) (LS K TT E (dAsg fa g)) := (ps_asg he hg hs hw h1).imp fun _ _ _ h => h.asg
theorem ds_set {i : Nat} {x : Str} {p2 : Pos} (hN : X.N.Nodup) (hi : X.N[i]? = some x) (hx : Loc X.env.scope x) (he : PE X a (LE K TT E fa)) (hf : X.fn x = true ∨ X.env.scope.names.lookup x = some .local := by first | exact .inl rfl | exact .inr rfl | assumption) (hs : swapsWithSole [.Name x p2] a pos.line X.env = pure false := by rfl) (hw : swappedStores [.Name x p2] a X.env = pure none := by rfl)
    (h1 : (assignEach [.Name x p2] X.env).map (·.2) = [assign (.Name x p2) X.env] := by rfl) : PS X (.Assign [.Name x p2] a pos) (LS K TT E (dAsg fa (dgName i))) := ds_asg he (dg_name (pg_name hN hi hx hf)) hs hw h1
def dPar (i j : Nat) (f : GDA S) : GDS S := fun P ρ n => f ρ n (fun ds m => match ds with
  | [d, e] => P.nx ((ρ.set i (.val d)).set j (.val e)) m
  | _ => False) P.ex
theorem ds_par {i j : Nat} {fr : GDA S} (h : PS X st (tPar i j (LA K TT E fr))) : PS X st (LS K TT E (dPar i j fr)) := h.imp fun D σ H hz7 => ex6 hz7 fun ρ n P r f k => ⟨ρ, n, _, P.ex, r, f, fun ds m vs H1 q e s => by
  cases s with
  | nil => exact False.elim q
  | cons s1 s =>
    cases s with
    | nil => exact False.elim q
    | cons s2 s =>
      cases s with
      | nil => exact ⟨_, _, rfl, k.nx _ m _ H1 q e.toFra (((r.fre e).put s1).put s2)⟩
      | cons _ _ => exact False.elim q, k.ex.toE⟩
structure Items (K : PySem.W.Frag) (TT : List (Addr × Str)) (J : It) (m : S) (H : Hp) (ds : List Dat) : Prop where
  len : ds.length ≤ sizeLine
  goes : ∀ i n' H', i < ds.length → Fra K TT m H n' H' → J.go i H'
  stops : ∀ n' H', Fra K TT m H n' H' → J.stop ds.length H'
  yields : ∀ (i : Nat) (n' : S) (H' : Hp) (x : V) (H2 : Hp) (d : Dat), ds[i]? = some d → Fra K TT m H n' H' → J.yld i H' x H2 → Grow H' H2 ∧ ∀ G, Fra K TT m H n' G → (∀ b o, H2 b = some o → H' b = none → G b = some o) → Sees K n' G x d
abbrev GDI (S : Type) := List Sl → S → (List Dat → S → Prop) → GRX S → Prop
def LI (K : PySem.W.Frag) (TT : List (Addr × Str)) (E : XK) (f : GDI S) : TI := fun σ H R => ∃ ρ n P Rx, Rel K ρ n σ H ∧ f ρ n P Rx ∧ (∀ ds m J H1, P ds m → Fre K TT n H m H1 → Items K TT J m H1 ds → R J H1) ∧ ExE K TT E n H Rx
theorem _root_.L2.PI.imp {tg e : Expr} {t t' : TI} (h : PI X tg e t) (i : ∀ σ H Q, t' σ H Q → t σ H Q) : PI X tg e t' := ⟨fun pins s σ H Q I q => h.run pins s σ H Q I (i _ _ _ q)⟩
def lstOf : Dat → (List Dat → Prop) → Prop
  | .lst ds, P => P ds
  | _, _ => False
def tupOf : Dat → (List Dat → Prop) → Prop
  | .tup ds, P => P ds
  | _, _ => False
theorem lstOf_of {d : Dat} {P : List Dat → Prop} (h : lstOf d P) : ∃ b, d = .lst b ∧ P b := by
  cases d with
  | lst b => exact ⟨b, rfl, h⟩
  | _ => exact h.elim
theorem tupOf_of {d : Dat} {P : List Dat → Prop} (h : tupOf d P) : ∃ b, d = .tup b ∧ P b := by
  cases d with
  | tup b => exact ⟨b, rfl, h⟩
  | _ => exact h.elim
def diList (f : GDE S) : GDI S := fun ρ n P R => f ρ n (fun d m => lstOf d fun ds => P ds m) R
def diTup (f : GDE S) : GDI S := fun ρ n P R => f ρ n (fun d m => tupOf d fun ds => P ds m) R
theorem di_list {tg : Expr} (h : PE X a (LE X.K TT E fa)) : PI X tg a (LI X.K TT E (diList fa)) := (pi_list h).imp fun σ H R hz7 => ex8 hz7 fun ρ n P Rx r f k x => ⟨ρ, n, _, Rx, r, f, fun d m v H1 q e s => by
  obtain ⟨ds, rfl, q⟩ := lstOf_of q
  obtain ⟨l, xs, rfl, h1, h2, h3⟩ := s.lst_iff
  refine ⟨l, rfl, ⟨_, h1⟩, k ds m _ H1 q e ⟨by rw [← h3.length]; exact h2, fun i n' H' hi g => ?_, fun n' H' g => ⟨_, g.sqL h1, by rw [h3.length]; exact Nat.le_refl _⟩, fun i n' H' y H2 d hd g z => ?_⟩⟩
  · rw [← h3.length] at hi
    exact ⟨_, xs[i], g.sqL h1, by simp [hi]⟩
  · obtain ⟨e1, e2⟩ := z
    have e2 := e2 xs (g.sqL h1)
    rw [e1]
    obtain ⟨d', e3, s3⟩ := h3.get e2
    rw [hd] at e3
    cases e3
    exact ⟨.refl _, fun G gG _ => s3.mono gG⟩, x⟩
theorem di_tup {tg : Expr} (h : PE X a (LE X.K TT E fa)) : PI X tg a (LI X.K TT E (diTup fa)) := (pi_tup h).imp fun σ H R hz7 => ex8 hz7 fun ρ n P Rx r f k x => ⟨ρ, n, _, Rx, r, f, fun d m v H1 q e s => by
  obtain ⟨ds, rfl, q⟩ := tupOf_of q
  obtain ⟨l, xs, rfl, h1, h2, h3⟩ := s.tup_iff
  refine ⟨l, rfl, ⟨_, h1⟩, k ds m _ H1 q e ⟨by rw [← h3.length]; exact h2, fun i n' H' hi g => ?_, fun n' H' g => ⟨_, g.sqT h1, by rw [h3.length]; exact Nat.le_refl _⟩, fun i n' H' y H2 d hd g z => ?_⟩⟩
  · rw [← h3.length] at hi
    exact ⟨_, xs[i], g.sqT h1, by simp [hi]⟩
  · obtain ⟨e1, e2⟩ := z
    have e2 := e2 xs (g.sqT h1)
    rw [e1]
    obtain ⟨d', e3, s3⟩ := h3.get e2
    rw [hd] at e3
    cases e3
    exact ⟨.refl _, fun G gG _ => s3.mono gG⟩, x⟩
def numL (lo : Int) : Nat → List Dat
  | 0 => []
  | k + 1 => .int lo :: numL (lo + 1) k
theorem numL_len : ∀ (lo : Int) (k : Nat), (numL lo k).length = k
  | _, 0 => rfl
  | lo, k + 1 => congrArg (· + 1) (numL_len (lo + 1) k)
theorem numL_get : ∀ (lo : Int) (k i : Nat), i < k → (numL lo k)[i]? = some (.int (lo + i))
  | lo, 0, i, h => absurd h (Nat.not_lt_zero _)
  | lo, k + 1, 0, h => by simp [numL]
  | lo, k + 1, i + 1, h => by
    show (numL (lo + 1) k)[i]? = _
    rw [numL_get (lo + 1) k i (by omega)]
    congr 2
    push_cast
    omega
theorem items_range {lo : Int} {k : Nat} {m : S} {H : Hp} (l : k ≤ sizeLine) : Items K TT (Itr lo k) m H (numL lo k) := by
  refine ⟨by rw [numL_len]; exact l, fun i n' H' hi g => by rw [numL_len] at hi; exact hi, fun n' H' g => by rw [numL_len]; exact Nat.le_refl _, fun i n' H' x H2 d hd g y => ?_⟩
  obtain ⟨e1, e2⟩ := y
  have hi : i < k := by
    obtain ⟨h, _⟩ := List.getElem?_eq_some_iff.mp hd
    rw [numL_len] at h
    exact h
  rw [numL_get _ _ _ hi] at hd
  cases hd
  rw [e1, e2]
  exact ⟨.refl _, fun _ _ _ => .int _⟩
def rg1 : List Dat → (List Dat → Prop) → Prop
  | [.int j], P => (-(2 ^ 62) ≤ j ∧ j ≤ 1000000) ∧ P (numL 0 j.toNat)
  | _, _ => False
def diRng1 (f : GDA S) : GDI S := fun ρ n P R => f ρ n (fun ds m => rg1 ds fun xs => P xs m) R
theorem rng1_of {ds : List Dat} {n : S} {H : Hp} {vs : List V} {P : List Dat → Prop} (s : SeesL K n H vs ds) (h : rg1 ds P) : ∃ j : Int, vs = [.int j] ∧ -(2 ^ 62) ≤ j ∧ j < 2 ^ 62 ∧ P (numL 0 j.toNat) ∧ j.toNat ≤ sizeLine := by
  unfold rg1 at h
  split at h
  · rename_i j
    cases s with
    | cons s1 s2 =>
      cases s2
      have l : j.toNat ≤ 1000000 := by have := h.1.2; omega
      exact ⟨j, by rw [s1.int_iff], h.1.1, by omega, h.2, Nat.le_trans l (by decide)⟩
  · exact h.elim
theorem di_rng1 {tg e : Expr} {fr : GDA S} (h : PI X tg e (iRng1 (LA K TT E fr))) : PI X tg e (LI K TT E (diRng1 fr)) := h.imp fun σ H R hz7 => ex8 hz7 fun ρ n P Rx r f k x => ⟨ρ, n, _, Rx, r, f, fun ds m vs H1 q e s => by
  obtain ⟨j, rfl, j0, j1, q, l⟩ := rng1_of s q
  exact ⟨j, rfl, j0, j1, k _ m _ H1 q e (items_range l)⟩, x⟩
def pairs (xs ys : List Dat) : List Dat := List.zipWith (fun x y => .tup [x, y]) xs ys
theorem pair_sees {n : S} {H' H2 G : Hp} {v x y : V} {T : Addr} {o : Obj} {d e : Dat} (n0 : H' T = none) (e1 : v = .ref T) (ho : o.dict = none) (e2 : H2 = upd H' T (.frz o (.tup [x, y]))) (q : ∀ b o, H2 b = some o → H' b = none → G b = some o) (s1 : Sees K n G x d) (s2 : Sees K n G y e) : Sees K n G v (.tup [d, e]) := by
  subst e1
  subst e2
  exact .tupOf (q T _ upd_same n0) ho (by show 2 ≤ sizeLine; decide) (.cons s1 (.cons s2 .nil))
theorem pairs_len {xs ys : List Dat} : (pairs xs ys).length = min xs.length ys.length := by simp [pairs]
theorem pairs_get {xs ys : List Dat} {i : Nat} {d : Dat} (h : (pairs xs ys)[i]? = some d) : ∃ x y, xs[i]? = some x ∧ ys[i]? = some y ∧ d = .tup [x, y] := by
  unfold pairs at h
  rw [List.getElem?_zipWith] at h
  split at h
  · rename_i x y h1 h2
    cases h
    exact ⟨x, y, h1, h2, rfl⟩
  · cases h
def zp : List Dat → (List Dat → Prop) → Prop
  | [.lst xs, .lst ys], P => P (pairs xs ys)
  | [.tup xs, .tup ys], P => xs.length = ys.length ∧ P (pairs xs ys)
  | _, _ => False
def en : List Dat → (List Dat → Prop) → Prop
  | [.lst xs], P => P (pairs (numL 0 xs.length) xs)
  | _, _ => False
def diZip (f : GDA S) : GDI S := fun ρ n P R => f ρ n (fun ds m => zp ds fun xs => P xs m) R
theorem items_zipL {p q : Addr} {xs ys : List V} {ds es : List Dat} {m : S} {H : Hp} (h1 : SqL K H p xs) (h2 : SqL K H q ys) (s1 : SeesL K m H xs ds) (s2 : SeesL K m H ys es) (l : xs.length ≤ sizeLine) : Items K TT (ItzN K p q) m H (pairs ds es) := by
  have w := walk_zipN (K := K) (a := p) (b := q) (xs := xs) (ys := ys) (n := (pairs ds es).length) (by rw [pairs_len, s1.length, s2.length])
  refine ⟨?_, fun i n' H' hi g => w.goes i H' hi ⟨g.sqL h1, g.sqL h2⟩, fun n' H' g => w.stops H' ⟨g.sqL h1, g.sqL h2⟩, fun i n' H' x H2 d hd g y => ?_⟩
  · rw [pairs_len, ← s1.length]
    exact Nat.le_trans (Nat.min_le_left _ _) l
  · obtain ⟨hi, _⟩ := List.getElem?_eq_some_iff.mp hd
    obtain ⟨T, o, a, b, e1, e2, e6, e3, e4, e5⟩ := w.yields i H' x H2 hi ⟨g.sqL h1, g.sqL h2⟩ y
    obtain ⟨d1, d2, f1, f2, rfl⟩ := pairs_get hd
    obtain ⟨d1', g1, t1⟩ := s1.get e4
    obtain ⟨d2', g2, t2⟩ := s2.get e5
    rw [f1] at g1
    rw [f2] at g2
    cases g1
    cases g2
    exact ⟨by rw [e3]; exact .new e2, fun G gG q => pair_sees e2 e1 e6 e3 q (t1.mono gG) (t2.mono gG)⟩
theorem items_zipT {p q : Addr} {xs ys : List V} {ds es : List Dat} {m : S} {H : Hp} (h1 : SqT K H p xs) (h2 : SqT K H q ys) (s1 : SeesL K m H xs ds) (s2 : SeesL K m H ys es) (l : xs.length ≤ sizeLine) (e : ds.length = es.length) : Items K TT (ItzTN K p q) m H (pairs ds es) := by
  have w := walk_zipTN (K := K) (a := p) (b := q) (xs := xs) (ys := ys) (n := (pairs ds es).length) (by rw [pairs_len, s1.length]; omega) (by rw [pairs_len, s2.length]; omega)
  refine ⟨?_, fun i n' H' hi g => w.goes i H' hi ⟨g.sqT h1, g.sqT h2⟩, fun n' H' g => w.stops H' ⟨g.sqT h1, g.sqT h2⟩, fun i n' H' x H2 d hd g y => ?_⟩
  · rw [pairs_len, ← s1.length]
    exact Nat.le_trans (Nat.min_le_left _ _) l
  · obtain ⟨hi, _⟩ := List.getElem?_eq_some_iff.mp hd
    obtain ⟨T, o, a, b, e1, e2, e6, e3, e4, e5⟩ := w.yields i H' x H2 hi ⟨g.sqT h1, g.sqT h2⟩ y
    obtain ⟨d1, d2, f1, f2, rfl⟩ := pairs_get hd
    obtain ⟨d1', g1, t1⟩ := s1.get e4
    obtain ⟨d2', g2, t2⟩ := s2.get e5
    rw [f1] at g1
    rw [f2] at g2
    cases g1
    cases g2
    exact ⟨by rw [e3]; exact .new e2, fun G gG q => pair_sees e2 e1 e6 e3 q (t1.mono gG) (t2.mono gG)⟩
theorem di_zip {tg e : Expr} {fr : GDA S} (h : PI X tg e (iZipN X.K (LA X.K TT E fr))) : PI X tg e (LI X.K TT E (diZip fr)) := h.imp fun σ H R hz7 => ex8 hz7 fun ρ n P Rx r f k x => ⟨ρ, n, _, Rx, r, f, fun ds m vs H1 q e s => by
  unfold zp at q
  split at q
  · cases s with
    | cons s1 s =>
      cases s with
      | cons s2 s =>
        cases s
        obtain ⟨p1, xs, rfl, a1, a2, a3⟩ := s1.lst_iff
        obtain ⟨p2, ys, rfl, b1, b2, b3⟩ := s2.lst_iff
        exact ⟨p1, p2, xs, ys, rfl, .inl ⟨a1, b1, k _ m _ H1 q e (items_zipL a1 b1 a3 b3 a2)⟩⟩
  · cases s with
    | cons s1 s =>
      cases s with
      | cons s2 s =>
        cases s
        obtain ⟨p1, xs, rfl, a1, a2, a3⟩ := s1.tup_iff
        obtain ⟨p2, ys, rfl, b1, b2, b3⟩ := s2.tup_iff
        exact ⟨p1, p2, xs, ys, rfl, .inr ⟨a1, b1, k _ m _ H1 q.2 e (items_zipT a1 b1 a3 b3 a2 q.1)⟩⟩
  · exact q.elim, x⟩
end
end Aim
namespace Aim
open PySem PySem.Spec PyProof.Rows L2
open LamX (TabB Tabs CodeO)
open Stt (cnt sto)
variable {S : Type} [Stt S]
section
variable {K : PySem.W.Frag} {TT : List (Addr × Str)} {E : XK} {X : Cx} {n m : S} {H H' : Hp} {ρ : List Sl} {σ : L2.St}
theorem own_perm {a b : Addr} {xs : List V} {o : HO} (l : xs.length ≤ sizeLine) (h : H a = some (OwnO xs a)) (e : H b = some o) (p : Perm b o) : b ≠ a := fun z => by
  subst z
  rw [h] at e
  exact p.2.1 xs (Option.some.inj e).symm
theorem Fra.melt {a : Addr} {xs ys : List V} (l : xs.length ≤ sizeLine) (h : H a = some (OwnO xs a)) (hs : sto n a = none) : Fra K TT n H n (upd H a (.lst ys)) := .wr h hs
theorem upd_back {a : Addr} {o u : HO} (h : H a = some o) : upd (upd H a u) a o = H := by rw [upd_upd, upd_self h]
def LF (K : PySem.W.Frag) (TT : List (Addr × Str)) (E : XK) (f : GDA S) : TE := fun σ H Q => ∃ ρ n P R, Rel K ρ n σ H ∧ f ρ n P R ∧
  (∀ ds m xs p H', P ds m → (∀ {sh : Shp} (ys : List V), H p = some (OwnS sh ys p) → sto n p ≠ none) → H' p = some (.lst xs) → xs.length ≤ sizeLine → sto m p = none → Fre K TT n H m (upd H' p (OwnO xs p)) → SeesL K m (upd H' p (OwnO xs p)) xs ds → Q (.ref p) H') ∧ ExE K TT E n H R
def dFr (f : GDA S) : GDE S := fun ρ n P R => f ρ n (fun ds m => P (.lst ds) m) R
theorem Fre.new_list {p : Addr} {xs : List V} (h0 : ∀ {sh : Shp} (ys : List V), H p = some (OwnS sh ys p) → sto n p ≠ none) (h1 : H' p = some (.lst xs)) (l : xs.length ≤ sizeLine) (hs : sto m p = none) (e : Fre K TT n H m (upd H' p (OwnO xs p))) : Fre K TT n H m H' := by
  have b : upd (upd H' p (OwnO xs p)) p (.lst xs) = H' := upd_back h1
  refine ⟨?_, fun c ys q sq => ?_⟩
  · have z := e.toFra.trans (Fra.melt (ys := xs) l (show upd H' p (OwnO xs p) p = some (OwnO xs p) from upd_same) hs)
    rw [b] at z
    exact z
  · have z := e.own c ys q sq
    rw [upd_ne fun w => h0 ys (by rw [← w]; exact q) (by rw [← w]; exact sq)] at z
    exact z
theorem sees_new {p : Addr} {xs : List V} {ds : List Dat} (h1 : H' p = some (.lst xs)) (l : xs.length ≤ sizeLine) (hs : sto m p = none) (s : SeesL K m (upd H' p (OwnO xs p)) xs ds) : Sees K m H' (.ref p) (.lst ds) := by
  have b : upd (upd H' p (OwnO xs p)) p (.lst xs) = H' := upd_back h1
  have z := s.mono (TT := []) (Fra.melt (ys := xs) l (show upd H' p (OwnO xs p) p = some (OwnO xs p) from upd_same) hs)
  rw [b] at z
  exact .lstOf h1 l z
theorem LE.fr {f : GDA S} {σ : L2.St} {H : Hp} {Q : VK} (h : LE K TT E (dFr f) σ H Q) : LF K TT E f σ H Q := by
  obtain ⟨ρ, n, P, R, r, g, k, x⟩ := h
  exact ⟨ρ, n, _, R, r, g, fun ds m xs p H' q h0 h1 l hs e s => k _ m _ H' q (e.new_list h0 h1 l hs) (sees_new h1 l hs s), x⟩
theorem de_fr {e : Expr} {f : GDA S} (h : PE X e (LF K TT E f)) : PE X e (LE K TT E (dFr f)) := h.imp fun _ _ _ q => q.fr
theorem lf_grow {P : List Dat → S → Prop} {Q : VK} {p : Addr} {xs : List V} {ds : List Dat} {H1 : Hp} (k : ∀ ds m xs p H', P ds m → (∀ {sh : Shp} (ys : List V), H p = some (OwnS sh ys p) → sto n p ≠ none) → H' p = some (.lst xs) → xs.length ≤ sizeLine → sto m p = none → Fre K TT n H m (upd H' p (OwnO xs p)) → SeesL K m (upd H' p (OwnO xs p)) xs ds → Q (.ref p) H')
    (q : P ds m) (e : Fre K TT n H m H1) (t : StoOk K n H) (hp : H1 p = none) (l : xs.length ≤ sizeLine) (s : SeesL K m H1 xs ds) : Q (.ref p) (upd H1 p (.lst xs)) := by
  have g : Grow H1 (upd H1 p (OwnO xs p)) := .new hp
  have b : upd (upd H1 p (.lst xs)) p (OwnO xs p) = upd H1 p (OwnO xs p) := upd_upd
  refine k ds m xs p _ q (fun ys w ws => by rw [(e.own p ys w ws).1] at hp; cases hp) upd_same l ((e.st t).free hp) ?_ ?_
  · rw [b]
    exact e.trans (.grow g)
  · rw [b]
    exact s.grow g
end
section
variable {K : PySem.W.Frag} {TT : List (Addr × Str)} {E : XK} {X : Cx} {e : Expr}
theorem to_own {pins : List (Addr × Obj)} {σ : L2.St} {H : Hp} {s : Shared} {D : Addr} {xs : List V} (I : Inv X pins σ H s) (h : H D = some (.lst xs)) : Inv X pins σ (upd H D (OwnO xs D)) s := by
  obtain ⟨l, its, k, rv, hg⟩ := (show ObjOk X.prog X.w H s.heap D (.lst xs) from I.hok D _ h)
  exact retell I (by rw [h]; exact True.intro) ⟨_, hg⟩ (OwnO.ok l rv hg)
theorem of_own {pins : List (Addr × Obj)} {σ : L2.St} {H : Hp} {s : Shared} {D : Addr} {xs : List V} (I : Inv X pins σ H s) (h : H D = some (OwnO xs D)) : Inv X pins σ (upd H D (.lst xs)) s := by
  obtain ⟨l, its, k, rv, hg⟩ := OwnO.at I.hok h
  exact retell I (by rw [h]; exact True.intro) ⟨_, hg⟩ ⟨l, its, k, rv, hg⟩
def tHide (t : TE) : TE := fun σ H Q => ∃ D xs, H D = some (.lst xs) ∧ t σ (upd H D (OwnO xs D)) fun v H' => H' D = some (OwnO xs D) ∧ Q v (upd H' D (.lst xs))
def tHideT (t : L2.TT) : L2.TT := fun σ H Q => ∃ D xs, H D = some (.lst xs) ∧ t σ (upd H D (OwnO xs D)) fun v H' => H' D = some (OwnO xs D) ∧ Q v (upd H' D (.lst xs))
def gHide (t : TG) : TG := fun v σ H Q => ∃ D xs, H D = some (.lst xs) ∧ t v σ (upd H D (OwnO xs D)) fun σ' H' => H' D = some (OwnO xs D) ∧ Q σ' (upd H' D (.lst xs))
theorem pe_hide {t : TE} (h : PE X e t) : PE X e (tHide t) := ⟨fun pins s σ H Q I ⟨D, xs, hD, q⟩ => thn (h.run pins s σ _ _ (to_own I hD) q) fun u s' ⟨v, H', J, r, e1, q'⟩ => ⟨v, _, of_own J e1, r, q'⟩⟩
theorem pts_hide {es : List Expr} {t : L2.TT} (h : PTs X es t) : PTs X es (tHideT t) := ⟨fun pins s σ H Q I ⟨D, xs, hD, q⟩ => thn (h.run pins s σ _ _ (to_own I hD) q) fun b s' ⟨H', J, e1, q'⟩ => ⟨_, of_own J e1, q'⟩⟩
theorem pg_hide {t : TG} (h : PG X e t) : PG X e (gHide t) := ⟨fun pins s σ H v u Q I r ⟨D, xs, hD, q⟩ => thn (h.run pins s σ _ v u _ (to_own I hD) r q) fun _ s' ⟨σ', H', J, e1, q'⟩ => ⟨σ', _, of_own J e1, q'⟩⟩
theorem dts_nil : PTs X [] (LTs (S := S) K TT E fun _ n P _ => P true n) := ⟨fun pins s σ H Q I h => pts_nil.run pins s σ H Q I (by obtain ⟨ρ, n, P, R, r, f, k, x⟩ := h; exact k true n H f .refl)⟩
theorem dts_one {c : Expr} {t : GDT S} (h : PT X c (LTs K TT E t)) : PTs X [c] (LTs K TT E t) := pts_one h
theorem wipe_wipe (σ : L2.St) (l : List Nat) : wipe (wipe σ l) l = wipe σ l := by
  apply List.ext_getElem?
  intro j
  rw [wipe_get, wipe_get]
  by_cases hj : j ∈ l
  · simp only [hj, if_true]
    cases σ[j]? <;> rfl
  · simp only [hj, if_false]
def wiped (ρ : List Sl) : List Nat → List Sl
  | [] => ρ
  | i :: l => (wiped ρ l).set i .no
theorem Rel.wipe {ρ : List Sl} {n : S} {σ : L2.St} {H : Hp} (r : Rel K ρ n σ H) : ∀ l, Rel K (wiped ρ l) n (wipe σ l) H
  | [] => r
  | _ :: l => (Rel.wipe r l).drop
end
end Aim
namespace Aim
open PySem PySem.Spec PyProof.Rows L2
open LamX (TabB Tabs CodeO)
open Stt (cnt sto)
variable {S : Type} [Stt S]
section
variable {K : PySem.W.Frag} {TT : List (Addr × Str)} {E : XK} {X : Cx} {e elt tg iter : Expr} {st : Stmt} {pos spos : Pos}
theorem LS.setF {i : Nat} {f : GDA S} {D : Ends} {σ : L2.St} {H : Hp} (h : LS K TT E (dAsg (dFr f) (dgName i)) D σ H) : tAsg (LF K TT E f) (gName i) D σ H := by
  obtain ⟨ρ, n, P, r, q, k⟩ := h
  refine ⟨ρ, n, _, P.ex, r, q, fun ds m xs p H' z h0 h1 l hs e s => ?_, k.ex.toE⟩
  have e' := e.new_list h0 h1 l hs
  exact k.nx _ m _ H' z e'.toFra ((r.fre e').put (sees_new h1 l hs s))
theorem ds_setF {i : Nat} {f : GDA S} (h : PS X st (tAsg (LF K TT E f) (gName i))) : PS X st (LS K TT E (dAsg (dFr f) (dgName i))) := h.imp fun _ _ _ h => h.setF
def dOwn (i : Nat) (f : GDA S) : GDS S := fun P ρ n => f ρ n (fun ds m => P.nx (ρ.set i (.own ds)) m) P.ex
theorem ps_own {t : TS} (h : PS X st t) : PS X st (fun D σ H => t { D with nx := fun σ' H' => ∃ a xs, H' a = some (.lst xs) ∧ D.nx σ' (upd H' a (OwnO xs a)) } σ H) := ⟨fun pins s σ H D I q => thn (h.run pins s σ H _ I q) fun f s1 z => by
  cases f with
  | next =>
    obtain ⟨σ', H', J, a, xs, e, q⟩ := z
    exact ⟨σ', _, to_own J e, q⟩
  | ret v => exact z
  | brk => exact z
  | cont => exact z⟩
theorem ds_own {i : Nat} {f : GDA S} (h : PS X st (tAsg (LF K TT E f) (gName i))) : PS X st (LS K TT E (dOwn i f)) := (ps_own h).imp fun D σ H h => by
  obtain ⟨ρ, n, P, r, q, k⟩ := h
  refine ⟨ρ, n, _, P.ex, r, q, fun ds m xs p H' z h0 h1 l hs e s => ⟨p, xs, h1, ?_⟩, k.ex.toE⟩
  refine k.nx _ m _ _ z e.toFra ((r.fre e).putOwn l upd_same hs s fun j b hj o w => ?_)
  obtain ⟨ds', e1⟩ := o.1
  obtain ⟨a', xs', e2, l', e3, s3, _⟩ := r.owned e1
  rw [o.2] at e2
  cases e2
  subst w
  exact h0 _ e3 s3
def ownOf : Sl → (List Dat → Prop) → Prop
  | .own ds, P => P ds
  | _, _ => False
theorem ownOf_of {ρ : List Sl} {i : Nat} {P : List Dat → Prop} (h : ownOf (slAt ρ i) P) : ∃ ds, ρ[i]? = some (.own ds) ∧ P ds := by
  cases e : slAt ρ i with
  | own ds => rw [e] at h; exact ⟨ds, slAt_of e (by simp), h⟩
  | _ => rw [e] at h; exact h.elim
theorem Rel.here {ρ : List Sl} {n : S} {σ : L2.St} {H : Hp} {i : Nat} {s : Sl} {o : Option V} (r : Rel K ρ n σ H) (h : ρ[i]? = some s) (h2 : σ[i]? = some o) : ρ.set i s = ρ ∧ σ.set i o = σ := by
  obtain ⟨a, b⟩ := List.getElem?_eq_some_iff.mp h
  obtain ⟨c, d⟩ := List.getElem?_eq_some_iff.mp h2
  exact ⟨by rw [← b]; simp, by rw [← d]; simp⟩
theorem Rel.write {ρ : List Sl} {n : S} {σ : L2.St} {H : Hp} {i : Nat} {a : Addr} {xs ys : List V} {ds es : List Dat} (r : Rel K ρ n σ H) (h : ρ[i]? = some (.own ds)) (h2 : σ[i]? = some (some (.ref a))) (l : xs.length ≤ sizeLine) (e : H a = some (OwnO xs a)) (hs : sto n a = none) (l2 : ys.length ≤ sizeLine) (s : SeesL K n H ys es) : Rel K (ρ.set i (.own es)) n σ (upd H a (OwnO ys a)) := by
  have fo : Fra K [] n H n (upd H a (OwnO ys a)) := .own e hs
  have me : Owns ρ σ i a := ⟨⟨ds, h⟩, h2⟩
  have z := (Rel.drop (i := i) (o := none) r).mono fo (k2 := fun i C x dx ks ds zs _ hx hd s1 s2 => ⟨⟨not_makes e l hd, not_hid e hx⟩, s1, s2⟩) fun j b zs ow lz eb sb => ⟨by
    rw [upd_ne]
    intro w
    subst w
    obtain ⟨⟨ds', e1⟩, e2⟩ := ow
    by_cases hij : i = j
    · subst hij
      rw [List.getElem?_set] at e1
      split at e1
      · split at e1 <;> cases e1
      · rename_i w
        exact w rfl
    · rw [List.getElem?_set_ne hij] at e1 e2
      exact r.ap i j b b hij me ⟨⟨ds', e1⟩, e2⟩ rfl, sb⟩
  have q := z.putOwn (i := i) (a := a) (xs := ys) (ds := es) l2 upd_same hs (s.mono fo) fun j b hj ow w => by
    subst w
    obtain ⟨⟨ds', e1⟩, e2⟩ := ow
    rw [List.getElem?_set_ne (Ne.symm hj)] at e1 e2
    exact r.ap i j b b (Ne.symm hj) me ⟨⟨ds', e1⟩, e2⟩ rfl
  simp only [List.set_set] at q
  rw [(r.here h h2).2] at q
  exact q
abbrev GO := List Dat → List Dat → (List Dat → Prop) → Prop
def OwnD (K : PySem.W.Frag) (r : V → List V → Hp → VK → Prop) (g : GO) : Prop := ∀ {U : Type} [Stt U] (n : U) (l : Addr) (xs vs : List V) (ds as : List Dat) (G H : Hp) (Q : VK) (P : List Dat → Prop), g ds as P → SeesL K n G xs ds → SeesL K n G vs as → H l = some (.lst xs) → xs.length ≤ sizeLine → (∀ ds' xs', P ds' → SeesL K n G xs' ds' → xs'.length ≤ sizeLine → Q .non (upd H l (.lst xs'))) → r (.ref l) vs H Q
def tOM (i : Nat) (r : V → List V → Hp → VK → Prop) (t : TA) : TS := fun D σ H => ∃ l xs, σ[i]? = some (some (.ref l)) ∧ H l = some (OwnO xs l) ∧ t σ H fun vs H1 => ∃ ys, H1 l = some (OwnO ys l) ∧ r (.ref l) vs (upd H1 l (.lst ys)) fun _ H2 => ∃ zs, H2 l = some (.lst zs) ∧ D.nx σ (upd H2 l (OwnO zs l))
theorem ps_om {i : Nat} {x name : Str} {id : String} {r : V → List V → Hp → VK → Prop} {es : List Expr} {t : TA} {p apos cpos : Pos} (slot : Slot "list" name id) (hty : typeOf (.builtin id) = pure (.type "method_descriptor")) (hm : MtR X id r) (hN : X.N[i]? = some x) (hv : Vis X.env.scope x) (ha : PA X (e :: es) t) (hd : (x == ("__debug__" : Str)) = false := by decide) (hcd : (x == ("__classdict__" : Str)) = false := by decide)
    (hbase : attributeBase (.Name x p) name X.env (eval (.Name x p) X.env) = eval (.Name x p) X.env := by rfl)
    (hfew : ((backTo cpos (starEach (e :: es) X.env)).all (fun x => !x.1) && (backToKw cpos (keywordEach [] X.env)).all (fun x => x.1.isSome)
      && decide ((e :: es).length + ([] : List Keyword).length + (if ([] : List Keyword).isEmpty then 0 else 1) < 30)) = true := by rfl)
    (hline : (apos.endLine == cpos.line) = true := by rfl) (hs : starEach (e :: es) X.env = (false, eval e X.env) :: starEach es X.env := by rfl) (hplain : (backTo cpos (starEach es X.env)).any (·.1) = false := by rfl)
    (hsw : swapsWith (.Call (.Attribute (.Name x p) name apos) (e :: es) [] cpos) none pos.line X.env = pure false := by rfl) :
    PS X (.Expr (.Call (.Attribute (.Name x p) name apos) (e :: es) [] cpos) pos) (tOM i r t) := by
  refine ⟨fun pins s σ H D I hq90 => ?_⟩
  obtain ⟨l, xs, hσ, hH, h⟩ := hq90
  refine wpAny_Expr_any ?_ I.quiet hsw
  refine wpAny_Call_method_late hbase hfew hline rfl (thn ((pe_var (pos := p) hN hv hd hcd).run pins s σ H (fun v H1 => v = .ref l ∧ H1 = H) I ⟨_, hσ, rfl, rfl⟩) fun v s1 hq90 => ?_)
  obtain ⟨x, H1, I1, r1, ex, eH⟩ := hq90
  subst ex
  subst eH
  obtain ⟨h1, h2⟩ := tyV_is (of_own I1 hH) r1 (.inl ⟨rfl, xs, SqL.of upd_same⟩)
  refine ⟨"list", id, PySem.F.plainAttrs_list, slot, hty, h1, h2, ?_⟩
  have hA := ha.run cpos pins s1 σ H1 _ I1 h
  rw [hs] at hA ⊢
  refine Calls.callWith_builtin (by show (false || (backTo cpos (starEach es X.env)).any (·.1)) = false; rw [hplain] <;> rfl) (Calls.evalArgs_plain ?_)
  refine thn hA fun us s2 hq9 => ?_
  obtain ⟨vs, H2, I2, r2, ys, e2, q2⟩ := hq9
  refine thn (hm pins s2 σ _ (.ref l) vs v us _ (of_own I2 e2) r1 r2 q2) fun u s3 hq9 => ?_
  obtain ⟨w, H3, I3, r3, zs, e3, q3⟩ := hq9
  exact ⟨σ, _, to_own I3 e3, q3⟩
def dOM (i : Nat) (g : GO) (f : GDA S) : GDS S := fun P ρ n => ownOf (slAt ρ i) fun _ => f ρ n (fun as m => ownOf (slAt ρ i) fun ds => g ds as fun ds' => P.nx (ρ.set i (.own ds')) m) P.ex
theorem ds_om {i : Nat} {r : V → List V → Hp → VK → Prop} {g : GO} {fr : GDA S} (o : OwnD K r g) (h : PS X st (tOM i r (LA K TT E fr))) : PS X st (LS K TT E (dOM i g fr)) := h.imp fun D σ H hq80 => by
  obtain ⟨ρ, n, P, rl, q, k⟩ := hq80
  obtain ⟨ds, hρ, q⟩ := ownOf_of q
  obtain ⟨a, xs, hσ, l, hH, hs, sx⟩ := rl.owned hρ
  refine ⟨a, xs, hσ, hH, ρ, n, _, P.ex, rl, q, fun as m vs H1 q1 e1 s1 => ?_, k.ex.toE⟩
  obtain ⟨ds', hρ', q1⟩ := ownOf_of q1
  rw [hρ] at hρ'
  cases hρ'
  have h1 := (e1.own _ _ hH hs).1
  have hs1 := (e1.own _ _ hH hs).2
  refine ⟨xs, h1, o m a xs vs ds as H1 _ _ _ q1 (sx.mono e1.toFra) s1 upd_same l fun ds' xs' q2 s2 l2 => ⟨xs', upd_same, ?_⟩⟩
  rw [upd_upd, upd_upd]
  exact k.nx _ m _ _ q2 (e1.toFra.trans (.own h1 hs1)) ((rl.fre e1).write hρ hσ l h1 hs1 l2 s2)
def dMelt (i : Nat) (g : GDS S) : GDS S := fun P ρ n => ownOf (slAt ρ i) fun ds => g P (ρ.set i (.val (.lst ds))) n
theorem ds_melt {i : Nat} {g : GDS S} (h : PS X st (LS K TT E g)) : PS X st (LS K TT E (dMelt i g)) := ⟨fun pins s σ H D I hq80 => by
  obtain ⟨ρ, n, P, rl, q, k⟩ := hq80
  obtain ⟨ds, hρ, q⟩ := ownOf_of q
  obtain ⟨a, xs, hσ, l, hH, hs, sx⟩ := rl.owned hρ
  have fm : Fra K TT n H n (upd H a (.lst xs)) := .melt l hH hs
  refine h.run pins s σ _ D (of_own I hH) ⟨_, n, P, ?_, q, k.mono fm⟩
  have me : Owns ρ σ i a := ⟨⟨ds, hρ⟩, hσ⟩
  have z := (Rel.drop (i := i) (o := none) rl).mono fm (k2 := fun i C x dx ks ds zs _ hx hd s1 s2 => ⟨⟨not_makes hH l hd, not_hid hH hx⟩, s1, s2⟩) fun j b zs ow lz eb sb => ⟨by
    rw [upd_ne]
    intro w
    subst w
    obtain ⟨⟨ds', e1⟩, e2⟩ := ow
    by_cases hij : i = j
    · subst hij
      rw [List.getElem?_set] at e1
      split at e1
      · split at e1 <;> cases e1
      · rename_i w
        exact w rfl
    · rw [List.getElem?_set_ne hij] at e1 e2
      exact rl.ap i j b b hij me ⟨⟨ds', e1⟩, e2⟩ rfl, sb⟩
  have w := z.put (i := i) (Sees.lstOf (K := K) (n := n) (H := upd H a (.lst xs)) upd_same l (sx.mono fm))
  simp only [List.set_set] at w
  rw [(rl.here hρ hσ).2] at w
  exact w⟩
end
end Aim
namespace Aim
open PySem PySem.Spec PyProof.Rows L2
open LamX (TabB Tabs CodeO)
open Stt (cnt sto)
variable {S : Type} [Stt S]
def Prv (n : S) (H : Hp) (b : Addr) : Prop := (∃ (sh : Shp) (xs : List V), H b = some (OwnS sh xs b)) ∧ sto n b = none
open Classical in
noncomputable def cutO (n : S) (H : Hp) : Hp := fun b => if Prv n H b then none else H b
open Classical in
noncomputable def glueO (n : S) (H G : Hp) : Hp := fun b => if Prv n H b then H b else G b
section
variable {P : Program} {w : World} {K : PySem.W.Frag} {mg : Str → Option Value} {base : Heap} {TT : List (Addr × Str)} {n m : S} {H G : Hp} {h h' : Heap} {b : Addr} {o : HO}
theorem cutO_in (p : Prv n H b) : cutO n H b = none := if_pos p
theorem cutO_out (p : ¬ Prv n H b) : cutO n H b = H b := if_neg p
theorem glueO_in (p : Prv n H b) : glueO n H G b = H b := if_pos p
theorem glueO_out (p : ¬ Prv n H b) : glueO n H G b = G b := if_neg p
theorem cutO_some (e : cutO n H b = some o) : ¬ Prv n H b ∧ H b = some o := by
  by_cases p : Prv n H b
  · rw [cutO_in p] at e
    cases e
  · rw [cutO_out p] at e
    exact ⟨p, e⟩
theorem cutO_none (e : H b = none) : cutO n H b = none := by
  by_cases p : Prv n H b
  · exact cutO_in p
  · rw [cutO_out p]
    exact e
theorem perm_pub (e : H b = some o) (p : Perm b o) : ¬ Prv n H b := fun hq80 => by
  obtain ⟨⟨sh, xs, z⟩, _⟩ := hq80
  rw [e] at z
  exact p.2.1 xs (Option.some.inj z)
theorem pot_pub {k : Nat} (e : H b = some (PotO k b)) : ¬ Prv n H b := fun hq80 => by
  obtain ⟨⟨sh, xs, z⟩, _⟩ := hq80
  rw [e] at z
  exact own_pot (Option.some.inj z).symm
theorem code_pub {q : Str} (e : H b = some (CodeO b q)) : ¬ Prv n H b := fun hq80 => by
  obtain ⟨⟨sh, xs, z⟩, _⟩ := hq80
  rw [e] at z
  exact own_code (Option.some.inj z)
theorem tbl_pub {ps : Array Value} (e : H b = some (.tbl ps)) : ¬ Prv n H b := fun hq80 => by
  obtain ⟨⟨sh, xs, z⟩, _⟩ := hq80
  rw [e] at z
  unfold OwnS at z
  cases z
theorem tabs_map {H G : Hp} (t : Tabs TT H) (k : ∀ b o, H b = some o → ¬ Prv n H b → G b = some o) : Tabs TT G := fun x hx => by
  obtain ⟨ps, h1, h2, h3⟩ := t x hx
  refine ⟨ps, k _ _ h1 (tbl_pub h1), h2, fun pos cv hc => ?_⟩
  obtain ⟨c, e1, e2⟩ := h3 pos cv hc
  exact ⟨c, e1, k _ _ e2 (code_pub e2)⟩
theorem Frb.cut : Frb n H n (cutO n H) := ⟨Nat.le_refl _, fun b o e p => by rw [cutO_out (perm_pub e p)]; exact e, fun b k l e => ⟨k, l, by rw [cutO_out (pot_pub e)]; exact e⟩⟩
theorem Fra.cut : Fra K TT n H n (cutO n H) := ⟨.cut, fun t => tabs_map t fun b o e p => by rw [cutO_out p]; exact e, fun t => t.mono .cut rfl fun a xs sh ns e => by
  rw [cutO_out fun p => ns p.2]
  exact e⟩
theorem Fre.glue (f : Fra K TT n (cutO n H) m G) (t0 : StoOk K n H) (gone : ∀ b, Prv n H b → G b = none) : Fre K TT n H m (glueO n H G) := by
  have z := Fra.cut.trans f
  have out : ∀ {b : Addr} {o : HO}, G b = some o → glueO n H G b = some o := fun {b o} e => by
    rw [glueO_out fun p => by rw [gone b p] at e; cases e]
    exact e
  refine ⟨⟨⟨z.le, fun b o e p => out (z.keep b o e p), fun b k l e => ?_⟩, fun t => (z.tab t).ext fun b o e => out e, fun t => ?_⟩, fun b xs e s => ?_⟩
  · obtain ⟨j, h1, h2⟩ := z.pot b k l e
    exact ⟨j, h1, out h2⟩
  · exact (z.st t).mono (.growB fun b o e => out e) rfl fun a xs sh _ e => out e
  · rw [glueO_in ⟨⟨_, xs, e⟩, s⟩]
    exact ⟨e, (z.st t0).free (gone b ⟨⟨_, xs, e⟩, s⟩)⟩
theorem grow_glue (gone : ∀ b, Prv n H b → G b = none) : Grow G (glueO n H G) := fun b o e => by
  rw [glueO_out fun p => by rw [gone b p] at e; cases e]
  exact e
theorem prv_there {P : Program} {w : World} (hok : HOk P w H h) (p : Prv n H b) : ∃ o, h.get? b = some o := by
  obtain ⟨⟨sh, xs, e⟩, _⟩ := p
  obtain ⟨_, q, _⟩ := (show ObjOk P w H h b (OwnS sh xs b) from hok b _ e)
  exact q
theorem env0_cutO {A : Around} {outer : List Env} {s : Shared} (e : Env0 P w K mg base A outer s H) : Env0 P w K mg base A outer s (cutO n H) := by
  refine ⟨e.frames, e.mod, fun b o q => ⟨(e.bs b o q).1, cutO_none (e.bs b o q).2⟩, e.bsz, e.funs, fun b q => cutO_none (e.frf b q), fun b o q => ?_, e.bare⟩
  obtain ⟨n, q⟩ := cutO_some q
  refine ok_beside (e.hok b o q) (fun c z => ?_) fun c xs z => ?_
  · rw [cutO_out (perm_pub z (perm_ext (fun _ z => nomatch z) fun _ z => nomatch z))]
    exact z
  · rw [cutO_out (perm_pub z (perm_ext (fun _ z => nomatch z) fun _ z => nomatch z))]
    exact z
theorem hok_glue {hB : Heap} (hok : HOk P w H h) (hokG : HOk P w G hB) (gone : ∀ b, Prv n H b → G b = none) (kept : ∀ b, Prv n H b → ∀ o, h.get? b = some o → hB.get? b = some o) : HOk P w (glueO n H G) hB := fun b o e => by
  by_cases p : Prv n H b
  · rw [glueO_in p] at e
    obtain ⟨⟨sh, xs, q⟩, _⟩ := id p
    rw [q] at e
    cases e
    exact ok_hidden (by unfold OwnS; exact True.intro) (hok b _ q) (kept b p)
  · rw [glueO_out p] at e
    exact ok_beside (hokG b o e) (fun c z => grow_glue gone c _ z) fun c xs z => grow_glue gone c _ z
theorem ce_glueO {outer : List Env} {s s' : Shared} {Q : VK} {u : Value} (hok : HOk P w H s.heap) (frf : ∀ b ∈ frs outer, H b = none) (c : CE outer P w (cutO n H) s (fun v G => (∀ b, Prv n H b → G b = none) → Q v (glueO n H G)) u s') : CE outer P w H s Q u s' := by
  obtain ⟨v, G, os, bare, un, hok', r, q⟩ := c
  have gone : ∀ b, Prv n H b → G b = none := fun b hb => by
    obtain ⟨o, e⟩ := prv_there hok hb
    exact un.free b o e (cutO_in hb) (by simp)
  have kept : ∀ b, Prv n H b → ∀ o, s.heap.get? b = some o → s'.heap.get? b = some o := fun b hb o e => by
    obtain ⟨⟨_, u, e1⟩, _⟩ := id hb
    exact un.keep b o e (cutO_in hb) (fun z => by rw [frf b z] at e1; cases e1) (by simp)
  refine ⟨v, glueO n H G, os, bare, ⟨fun b o e e0 => un.keep b o e (cutO_none e0), fun b o e e0 => un.slot b o e (cutO_none e0), fun b o e e0 x => ?_, un.there, fun b xs e => ?_, fun b o u e => ?_, fun b ps e => ?_⟩, hok_glue hok hok' gone kept, r, q gone⟩
  · by_cases hb : Prv n H b
    · rw [glueO_in hb]
      exact e0
    · rw [glueO_out hb]
      exact un.free b o e (cutO_none e0) x
  · have p := perm_pub (n := n) e (perm_ext (fun _ z => nomatch z) fun _ z => nomatch z)
    rw [glueO_out p]
    exact un.tups b xs (by rw [cutO_out p]; exact e)
  · have p := perm_pub (n := n) e (perm_ext (fun _ z => nomatch z) fun _ z => nomatch z)
    rw [glueO_out p]
    exact un.frzs b o u (by rw [cutO_out p]; exact e)
  · have p := tbl_pub (n := n) e
    rw [glueO_out p]
    exact un.tbls b ps (by rw [cutO_out p]; exact e)
theorem cx_glueO {outer : List Env} {s s' : Shared} {E : XK} {u : Value} (hok : HOk P w H s.heap) (frf : ∀ b ∈ frs outer, H b = none) (c : L2.CX P w outer (cutO n H) s (fun c d G => (∀ b, Prv n H b → G b = none) → E c d (glueO n H G)) u s') : L2.CX P w outer H s E u s' := by
  obtain ⟨a, B, G, cls, d, eu, fl, hok', ub, na, os, bare, q⟩ := c
  have gone : ∀ b, Prv n H b → G b = none := fun b hb => by
    obtain ⟨o, e⟩ := prv_there hok hb
    exact ub.free b o e (cutO_in hb)
  have kept : ∀ b, Prv n H b → ∀ o, s.heap.get? b = some o → B.get? b = some o := fun b hb o e => by
    obtain ⟨⟨_, u, e1⟩, _⟩ := id hb
    exact ub.keep b o e (cutO_in hb) (fun z => by rw [frf b z] at e1; cases e1)
  refine ⟨a, B, glueO n H G, cls, d, eu, fl, hok_glue hok hok' gone kept, ⟨fun b o e e0 => ub.keep b o e (cutO_none e0), ub.slot, fun b o e e0 => ?_, ub.there, fun b xs e => ?_, fun b o u e => ?_, fun b ps e => ?_⟩, ?_, os, bare, q gone⟩
  · by_cases hb : Prv n H b
    · rw [glueO_in hb]
      exact e0
    · rw [glueO_out hb]
      exact ub.free b o e (cutO_none e0)
  · have p := perm_pub (n := n) e (perm_ext (fun _ z => nomatch z) fun _ z => nomatch z)
    rw [glueO_out p]
    exact ub.tups b xs (by rw [cutO_out p]; exact e)
  · have p := perm_pub (n := n) e (perm_ext (fun _ z => nomatch z) fun _ z => nomatch z)
    rw [glueO_out p]
    exact ub.frzs b o u (by rw [cutO_out p]; exact e)
  · have p := tbl_pub (n := n) e
    rw [glueO_out p]
    exact ub.tbls b ps (by rw [cutO_out p]; exact e)
  · by_cases hb : Prv n H a
    · obtain ⟨o, e⟩ := prv_there hok hb
      have z := kept a hb o e
      rw [fl.2.1] at z
      cases z
    · rw [glueO_out hb]
      exact na
end
abbrev GDSp (S : Type) := List Dat → S → (Dat → S → Prop) → GRX S → Prop
abbrev DSp := GDSp Nat
def LSp (K : PySem.W.Frag) (TT : List (Addr × Str)) (sp : GDSp S) : Sp := fun vs H Q E => ∃ ds n P R, SeesL K n H vs ds ∧ sp ds n P R ∧ (∀ d m v H', P d m → Fra K TT n H m H' → Sees K m H' v d → Q v H') ∧ ExOk K TT E n H R ∧ StoOk K n H
def spO (sp : Sp) : Sp := fun vs H Q E => ∃ (U : Type) (_ : Stt U) (n : U), sp vs (cutO n H) (fun v G => (∀ b, Prv n H b → G b = none) → Q v (glueO n H G)) (fun c d G => (∀ b, Prv n H b → G b = none) → E c d (glueO n H G))
def dCall (sp : GDSp S) (fr : GDA S) : GDE S := fun ρ n P R => fr ρ n (fun ds m => sp ds m P R) R
section
variable {X : Cx} {TT : List (Addr × Str)} {E : XK} {k j : Nat} {G : Bool} {x : Str} {sp : GDSp S} {e : Expr} {es : List Expr} {fr : GDA S} {p pos : Pos}
theorem run_dfO {pins : List (Addr × Obj)} {σ : L2.St} {H : Hp} {s : Shared} {Q : VK} {f : Addr} {fd : FuncData} {ps : List Str} {us : List Value} {vs : List V} {sp : Sp} (F : Rn X.prog X.w X.K X.mg X.base G k f fd ps sp) (hr : Room k X.A) (hg : G = true → X.A.guards = some []) (hb : L2.Binds X.K fd ps [])
    (hx : Passes (L2.CX X.prog X.w) X E) (I : Inv X pins σ H s) (r : Vals vs us) (h : spO sp vs H Q E) : wpAny (model X.prog X.w) X.A (call (.ref f) us) (EP X pins σ Q) X.xe s := by
  obtain ⟨U, _, n, h⟩ := h
  have hl : vs.length = ps.length := F.len _ _ _ _ h
  have hb' := hb s us I.kIn (by rw [List.append_nil, ← r.length]; exact hl)
  rw [List.append_nil] at hb'
  refine wpAny_call (codeAny_mono (F.run (s := s) (args := ⟨us, []⟩) hr hg (env0_cutO I.env0) hb' r h) fun y s' hq => ?_)
  match y, hq with
  | .error e, hq => exact hx pins σ H s e s' I (cx_glueO I.hok I.env0.frf hq)
  | .ok (.ret u), hq => exact I.after (ce_glueO I.hok I.env0.frf hq)
theorem lsp_go {σ : L2.St} {H : Hp} {Q : VK} (h : LE (S := S) X.K TT E (dCall sp fr) σ H Q) : LA X.K TT E fr σ H fun vs H1 => spO (LSp X.K TT sp) vs H1 Q E := by
  obtain ⟨ρ, n, P, R, r, f, k, x⟩ := h
  refine ⟨ρ, n, _, R, r, f, fun ds m vs H1 q e s => ⟨S, _, m, ds, m, P, R, s.mono (TT := TT) Fra.cut, q, fun d j v G p g t gone => ?_, ⟨(Fra.cut (K := X.K) (n := m)).tab (e.tab x.tab), fun C d j dd v G p g hd t gone => ?_⟩, (Fra.cut (TT := TT)).st (e.st r.st)⟩, x⟩
  · exact k d j v _ p (e.trans (.glue g (e.st r.st) gone)) (t.grow (grow_glue gone))
  · exact x.ex C d j dd v _ p (e.trans (Fre.glue g (e.st r.st) gone)) (grow_glue gone _ _ hd) (t.grow (grow_glue gone))
theorem de_call (d : Df X.prog X.w X.K X.mg X.base G k x (LSp X.K TT sp)) (hr : Room j X.A) (hk : k ≤ j) (hg : G = true → X.A.guards = some []) (gl : Gl X x) (hx : Passes (L2.CX X.prog X.w) X E) (ha : PA X (e :: es) (LA X.K TT E fr))
    (hdb : (x == ("__debug__" : Str)) = false := by decide) (he : starEach (e :: es) X.env = (false, eval e X.env) :: starEach es X.env := by rfl) (hpl : (backTo pos (starEach es X.env)).any (·.1) = false := by rfl) :
    PE X (.Call (.Name x p) (e :: es) [] pos) (LE (S := S) X.K TT E (dCall sp fr)) := by
  obtain ⟨f, fd, ps, F, hm, hkp, hb⟩ := d.ex
  refine ⟨fun pins s σ H Q I h => wpAny_Call_Name_kw (ld_glob I gl hm ?_ hdb)⟩
  exact PySem.W.callWith_K (h₀ := X.base) I.ok.mod.kin hkp (thn (ha.run pos pins s σ H _ I (lsp_go h)) fun us s1 ⟨vs, H1, I1, r, q⟩ => ⟨I1.kIn, run_dfO F (hr.mono hk) hg hb hx I1 r q⟩) he hpl
end
def dstart (N : List Str) (ds : List Dat) : List Sl := ds.map .val ++ List.replicate (N.length - ds.length) .no
theorem rel_start {K : PySem.W.Frag} {n : S} {H : Hp} {vs : List V} {ds : List Dat} (s : SeesL K n H vs ds) (N : List Str) (st : StoOk K n H) : Rel K (dstart N ds) n (start N vs) H := by
  have l := s.length
  refine ⟨by simp [dstart, L2.start, l], fun i z e => ?_, fun i j a b ne o1 o2 => ?_, st⟩
  · unfold dstart at e
    rw [List.getElem?_append] at e
    unfold L2.start
    split at e
    · rename_i hi
      rw [List.getElem?_map] at e
      cases hd : ds[i]? with
      | none => rw [hd] at e; cases e
      | some d =>
        rw [hd] at e
        cases e
        obtain ⟨v, hv, sv⟩ := s.getD hd
        refine ⟨some v, ?_, .val sv⟩
        rw [List.getElem?_append, if_pos (by simp at hi ⊢; omega), List.getElem?_map, hv]
        rfl
    · rename_i hi
      simp only [List.length_map] at e hi
      obtain ⟨h1, h2⟩ := List.getElem?_eq_some_iff.mp e
      have h3 := h1
      rw [List.length_replicate] at h3
      refine ⟨none, ?_, ?_⟩
      · rw [List.getElem?_append, if_neg (by simp; omega)]
        rw [List.length_map, l, List.getElem?_replicate, if_pos h3]
      · simp at h2
        subst h2
        exact .no
  · obtain ⟨⟨ds', e⟩, _⟩ := o1
    exfalso
    unfold dstart at e
    rw [List.getElem?_append] at e
    split at e
    · rw [List.getElem?_map] at e
      cases hd : ds[i]? with
      | none => rw [hd] at e; cases e
      | some d => rw [hd] at e; cases e
    · obtain ⟨h1, h2⟩ := List.getElem?_eq_some_iff.mp e
      simp at h2
section
variable {P : Program} {w : World} {K : PySem.W.Frag} {mg : Str → Option Value} {base : Heap} {TT : List (Addr × Str)} {G : Bool} {x : Str} {st : Stmt} {N ps : List Str} {k : Nat} {sp : GDSp S}
theorem ends_of {E : XK} {g : GDS S} {vs : List V} {ds : List Dat} {n : S} {H : Hp} {Q : VK} {PP : Dat → S → Prop} {R : GRX S} (s : SeesL K n H vs ds) (q : g { nx := fun _ m => PP .non m, rt := PP, ex := R } (dstart N ds) n) (kQ : ∀ d m v H', PP d m → Fra K TT n H m H' → Sees K m H' v d → Q v H') (kE : ExOk K TT E n H R) (kS : StoOk K n H) : LS K TT E g { nx := fun _ H' => Q .non H', rt := Q } (start N vs) H :=
  ⟨_, n, _, rel_start s N kS, q, ⟨fun ρ m σ H' p f _ => kQ _ m _ H' p f .non, kQ, fun _ _ _ _ z => z.elim, fun _ _ _ _ z => z.elim, kE⟩⟩
theorem dat_ok (F : Has K mg x st) (hb : ∀ f fd, L2.Fun K x x st f fd → L2.Binds K fd ps []) (S : FnScope N ps (defScope st))
    (body : ∀ (f : Addr) (cdv : Value) (A : Around) (outer : List Env) (s : Shared) (H : Hp) (E : XK), Room k (A.deeper (envOfC x (defScope st) s.heap.objs.size f cdv)) → (G = true → A.guards = some []) →
      ∃ g, PSs (cxOf (L2.CX P w) P w K mg base N x (defScope st) f cdv A outer s H E).nox (defBody st) (LS K TT E0 g) ∧ ∀ ds n PP R, sp ds n PP R → ds.length = ps.length ∧ g { nx := fun _ m => PP .non m, rt := PP, ex := R0 } (dstart N ds) n)
    (hl : ∀ ds n PP R, sp ds n PP R → ds.length = ps.length) : Df P w K mg base G (k + 1) x (LSp K TT sp) := by
  obtain ⟨f, fd, F, hm⟩ := F.ex
  refine df_ok F hm (hb f fd F) S (fun vs H Q E h => ?_) (fun cdv A outer s H vs Q E hr hG h => ?_)
  · obtain ⟨ds, n, PP, R, s, h, _⟩ := h
    rw [s.length]
    exact hl _ _ _ _ h
  · obtain ⟨g, hp, q⟩ := body f cdv A outer s H E hr hG
    obtain ⟨ds, n, PP, R, se, h, kQ, kE, kS⟩ := h
    exact ⟨_, hp, ends_of se (q ds n PP R h).2 kQ (.zero kE.tab) kS⟩
theorem dat_okX (F : Has K mg x st) (hb : ∀ f fd, L2.Fun K x x st f fd → L2.Binds K fd ps []) (S : FnScope N ps (defScope st))
    (body : ∀ (f : Addr) (cdv : Value) (A : Around) (outer : List Env) (s : Shared) (H : Hp) (E : XK), Room k (A.deeper (envOfC x (defScope st) s.heap.objs.size f cdv)) → (G = true → A.guards = some []) →
      ∃ g, PSs (cxOf (L2.CX P w) P w K mg base N x (defScope st) f cdv A outer s H E) (defBody st) (LS K TT E g) ∧ ∀ ds n PP R, sp ds n PP R → ds.length = ps.length ∧ g { nx := fun _ m => PP .non m, rt := PP, ex := R } (dstart N ds) n)
    (hl : ∀ ds n PP R, sp ds n PP R → ds.length = ps.length) : Df P w K mg base G (k + 1) x (LSp K TT sp) := by
  obtain ⟨f, fd, F, hm⟩ := F.ex
  refine df_okX F hm (hb f fd F) S (fun vs H Q E h => ?_) (fun cdv A outer s H vs Q E hr hG h => ?_)
  · obtain ⟨ds, n, PP, R, s, h, _⟩ := h
    rw [s.length]
    exact hl _ _ _ _ h
  · obtain ⟨g, hp, q⟩ := body f cdv A outer s H E hr hG
    obtain ⟨ds, n, PP, R, se, h, kQ, kE, kS⟩ := h
    exact ⟨_, hp, ends_of se (q ds n PP R h).2 kQ kE kS⟩
end
end Aim
namespace Aim
open PySem PySem.Spec PyProof.Rows L2
open LamX (TabB Tabs CodeO)
open Stt (cnt sto)
variable {S : Type} [Stt S]
mutual
def py : Dat → PyData
  | .non => .none | .bl b => .bool b | .int i => .int i | .str x => .str x
  | .tup xs => .tuple (pys xs) | .lst xs => .list (pys xs)
  | .byt _ => .none | .ty _ => .none | .ref _ => .none | .pot => .none | .dct _ _ => .none | .obj _ _ _ => .none | .exc _ _ => .none | .scr _ => .none | .dcn _ _ _ => .none
def pys : List Dat → List PyData
  | [] => []
  | x :: xs => py x :: pys xs
end
mutual
def plain : Dat → Bool
  | .non => true | .bl _ => true | .int _ => true | .str _ => true
  | .tup xs => plains xs | .lst xs => plains xs
  | .byt _ => false | .ty _ => false | .ref _ => false | .pot => false | .dct _ _ => false | .obj _ _ _ => false | .exc _ _ => false | .scr _ => false | .dcn _ _ _ => false
def plains : List Dat → Bool
  | [] => true
  | x :: xs => plain x && plains xs
end
def cmpOk (d : Dat) : Prop := plain d = true ∧ (py d).depth ≤ 60
def eqD (d e : Dat) : Bool := PyData.eqv (py d) (py e)
section
variable {K : PySem.W.Frag} {TT : List (Addr × Str)} {E : XK} {X : Cx} {n : S} {H H' : Hp}
mutual
theorem Sees.dd : ∀ {v : V} {d : Dat}, Sees K n H v d → plain d = true → DD K H v (py d)
  | _, _, .non => fun _ => .non
  | _, _, .bl b => fun _ => .bl b
  | _, _, .int i => fun _ => .int i
  | _, _, .str x l => fun _ => .str x
  | _, _, .tup h l s => fun p => .tup h.sqT (SeesL.dd s p)
  | _, _, .lst h l s => fun p => .lst (.of h) (SeesL.dd s p)
  | _, _, .byt _ _ => fun p => nomatch p
  | _, _, .ty _ => fun p => nomatch p
  | _, _, .ref _ => fun p => nomatch p
  | _, _, .pot _ _ => fun p => nomatch p
  | _, _, .dct _ _ _ => fun p => nomatch p
  | _, _, .obj _ _ _ => fun p => nomatch p
  | _, _, .exc _ _ _ => fun p => nomatch p
  | _, _, .scr _ => fun p => nomatch p
  | _, _, .dcn _ _ _ _ _ => fun p => nomatch p
theorem SeesL.dd : ∀ {vs : List V} {ds : List Dat}, SeesL K n H vs ds → plains ds = true → DDs K H vs (pys ds)
  | _, _, .nil => fun _ => .nil
  | _, _, .cons h r => fun p => .cons (Sees.dd h (Bool.and_eq_true_iff.mp p).1) (SeesL.dd r (Bool.and_eq_true_iff.mp p).2)
end
mutual
theorem Sees.lay : ∀ {v : V} {d : Dat}, Sees K n H v d → plain d = true → PyData.canLay0 (py d) = true
  | _, _, .non => fun _ => rfl
  | _, _, .bl b => fun _ => rfl
  | _, _, .int i => fun _ => rfl
  | _, _, .str x l => fun _ => l.2
  | _, _, .tup h l s => fun p => SeesL.lay s p
  | _, _, .lst h l s => fun p => SeesL.lay s p
  | _, _, .byt _ _ => fun p => nomatch p
  | _, _, .ty _ => fun p => nomatch p
  | _, _, .ref _ => fun p => nomatch p
  | _, _, .pot _ _ => fun p => nomatch p
  | _, _, .dct _ _ _ => fun p => nomatch p
  | _, _, .obj _ _ _ => fun p => nomatch p
  | _, _, .exc _ _ _ => fun p => nomatch p
  | _, _, .scr _ => fun p => nomatch p
  | _, _, .dcn _ _ _ _ _ => fun p => nomatch p
theorem SeesL.lay : ∀ {vs : List V} {ds : List Dat}, SeesL K n H vs ds → plains ds = true → PyData.canLayAll0 (pys ds) = true
  | _, _, .nil => fun _ => rfl
  | _, _, .cons h r => fun p => Bool.and_eq_true_iff.mpr ⟨Sees.lay h (Bool.and_eq_true_iff.mp p).1, SeesL.lay r (Bool.and_eq_true_iff.mp p).2⟩
end
theorem Sees.shaped {v : V} {d : Dat} (h : Sees K n H v d) (c : cmpOk d) : SeqAt.shaped (py d) = true := Bool.and_eq_true_iff.mpr ⟨h.lay c.1, decide_eq_true (Nat.le_trans c.2 (by decide))⟩
mutual
theorem Sees.dp : ∀ {v : V} {d : Dat}, Sees K n H v d → plain d = true → Dp K H v (py d)
  | _, _, .non => fun _ => .non
  | _, _, .bl b => fun _ => .bl b
  | _, _, .int i => fun _ => .int i
  | _, _, .str x l => fun _ => .str x
  | _, _, .tup h l s => fun p => .tup h.sqT (SeesL.dp s p)
  | _, _, .lst h l s => fun p => .lst (.of h) (SeesL.dp s p)
  | _, _, .byt _ _ => fun p => nomatch p
  | _, _, .ty _ => fun p => nomatch p
  | _, _, .ref _ => fun p => nomatch p
  | _, _, .pot _ _ => fun p => nomatch p
  | _, _, .dct _ _ _ => fun p => nomatch p
  | _, _, .obj _ _ _ => fun p => nomatch p
  | _, _, .exc _ _ _ => fun p => nomatch p
  | _, _, .scr _ => fun p => nomatch p
  | _, _, .dcn _ _ _ _ _ => fun p => nomatch p
theorem SeesL.dp : ∀ {vs : List V} {ds : List Dat}, SeesL K n H vs ds → plains ds = true → DpAll K H vs (pys ds)
  | _, _, .nil => fun _ => .nil
  | _, _, .cons h r => fun p => .cons (Sees.dp h (Bool.and_eq_true_iff.mp p).1) (SeesL.dp r (Bool.and_eq_true_iff.mp p).2)
end
def gEq : G2 := fun d e P => (cmpOk d ∧ cmpOk e) ∧ P (.bl (eqD d e))
def gNe : G2 := fun d e P => (cmpOk d ∧ cmpOk e) ∧ P (.bl (!eqD d e))
theorem od_eq : OpD K (rEqDD K) gEq := fun n x y d e H Q P g sx sy k => ⟨_, _, sx.dd g.1.1.1, sy.dd g.1.2.1, sx.shaped g.1.1, sy.shaped g.1.2, k _ _ H g.2 (.refl _) (.bl _)⟩
theorem od_ne : OpD K (rNeDD K) gNe := fun n x y d e H Q P g sx sy k => ⟨_, _, sx.dd g.1.1.1, sy.dd g.1.2.1, sx.shaped g.1.1, sy.shaped g.1.2, k _ _ H g.2 (.refl _) (.bl _)⟩
def gII (f : Int → Int → Dat) : G2
  | .int i, .int j, P => P (f i j)
  | _, _, _ => False
def gIC (C : Int → Int → Prop) (f : Int → Int → Dat) : G2
  | .int i, .int j, P => C i j ∧ P (f i j)
  | _, _, _ => False
theorem gII_of {f : Int → Int → Dat} {d e : Dat} {P : Dat → Prop} (h : gII f d e P) : ∃ i j, d = .int i ∧ e = .int j ∧ P (f i j) := by
  unfold gII at h
  split at h
  · exact ⟨_, _, rfl, rfl, h⟩
  · exact h.elim
theorem gIC_of {C : Int → Int → Prop} {f : Int → Int → Dat} {d e : Dat} {P : Dat → Prop} (h : gIC C f d e P) : ∃ i j, d = .int i ∧ e = .int j ∧ C i j ∧ P (f i j) := by
  unfold gIC at h
  split at h
  · exact ⟨_, _, rfl, rfl, h.1, h.2⟩
  · exact h.elim
theorem od_II (f : Int → Int → Int) : OpD K (rI0 fun i j => .int (f i j)) (gII fun i j => .int (f i j)) := fun n x y d e H Q P g sx sy k => by
  obtain ⟨i, j, rfl, rfl, p⟩ := gII_of g
  exact ⟨i, j, sx.int_iff, sy.int_iff, k _ _ H p (.refl _) (.int _)⟩
theorem od_IB (f : Int → Int → Bool) : OpD K (rI0 fun i j => .bl (f i j)) (gII fun i j => .bl (f i j)) := fun n x y d e H Q P g sx sy k => by
  obtain ⟨i, j, rfl, rfl, p⟩ := gII_of g
  exact ⟨i, j, sx.int_iff, sy.int_iff, k _ _ H p (.refl _) (.bl _)⟩
theorem od_IC {C : Int → Int → Prop} (f : Int → Int → Int) : OpD K (rI C fun i j => .int (f i j)) (gIC C fun i j => .int (f i j)) := fun n x y d e H Q P g sx sy k => by
  obtain ⟨i, j, rfl, rfl, c, p⟩ := gIC_of g
  exact ⟨i, j, sx.int_iff, sy.int_iff, c, k _ _ H p (.refl _) (.int _)⟩
def CMulA (i j : Int) : Prop := CMul i j ∨ CMulW i j
def rMulA : R2 := fun x y H Q => rI CMul (fun i j => .int (i * j)) x y H Q ∨ rI CMulW (fun i j => .int (i * j)) x y H Q
theorem op_mulA : OpR X (binaryOp .Mult) rMulA := op_mul.or op_mulW
theorem od_mulA : OpD K rMulA (gIC CMulA fun i j => .int (i * j)) := fun n x y d e H Q P g sx sy k => by
  obtain ⟨i, j, rfl, rfl, c, p⟩ := gIC_of g
  rcases c with c | c
  · exact .inl ⟨i, j, sx.int_iff, sy.int_iff, c, k _ _ H p (.refl _) (.int _)⟩
  · exact .inr ⟨i, j, sx.int_iff, sy.int_iff, c, k _ _ H p (.refl _) (.int _)⟩
def gNeg : Dat → (Dat → Prop) → Prop
  | .int i, P => P (.int (-i))
  | _, _ => False
theorem de_neg {a : Expr} {f : GDE S} {pos : Pos} (h : PE X a (LE K TT E f)) : PE X (.UnaryOp .USub a pos) (LE K TT E (dUn gNeg f)) := (pe_un un_neg h).imp fun σ H Q hz7 => ex8 hz7 fun ρ n P R r q k x => ⟨ρ, n, _, R, r, q, fun d m v H1 z e s => by
  unfold gNeg at z
  split at z
  · exact ⟨_, s.int_iff, k _ m _ H1 z e (.int _)⟩
  · exact z.elim, x⟩
theorem strB_append {x y : Str} (hx : StrB x) (hy : StrB y) (l : x.length + y.length ≤ sizeLine) : StrB (x ++ y) := by
  refine ⟨?_, ?_⟩
  · show (x.cps ++ y.cps).size ≤ sizeLine
    rw [Array.size_append]
    exact l
  · show (x.cps ++ y.cps).all _ = true
    rw [Array.all_append, hx.2, hy.2]
    rfl
def gAdd : G2
  | .int i, .int j, P => P (.int (i + j))
  | .str x, .str y, P => x.length + y.length ≤ sizeLine ∧ P (.str (x ++ y))
  | .tup xs, .tup ys, P => xs.length + ys.length ≤ sizeLine ∧ P (.tup (xs ++ ys))
  | .lst xs, .lst ys, P => xs.length + ys.length ≤ sizeLine ∧ P (.lst (xs ++ ys))
  | _, _, _ => False
def rAddA (K : PySem.W.Frag) : R2 := fun x y H Q => rI0 (fun i j => .int (i + j)) x y H Q ∨ (∃ i j, x = .str i ∧ y = .str j ∧ i.length + j.length ≤ sizeLine ∧ Q (.str (i ++ j)) H) ∨ rCatN K x y H Q ∨ rCat x y H Q
theorem op_addAny : OpR X (binaryOp .Add) (rAddA X.K) := op_add.or (op_add_str.or (op_catN.or op_cat))
theorem od_add : OpD K (rAddA K) gAdd := fun n x y d e H Q P g sx sy k => by
  unfold gAdd at g
  split at g
  · exact .inl ⟨_, _, sx.int_iff, sy.int_iff, k _ _ H g (.refl _) (.int _)⟩
  · obtain ⟨rfl, hx⟩ := sx.str_iff
    obtain ⟨rfl, hy⟩ := sy.str_iff
    exact .inr (.inl ⟨_, _, rfl, rfl, g.1, k _ _ H g.2 (.refl _) (.str _ (strB_append hx hy g.1))⟩)
  · obtain ⟨a, xs, rfl, h1, l1, s1⟩ := sx.tup_iffN
    obtain ⟨b, ys, rfl, h2, l2, s2⟩ := sy.tup_iffN
    have hz : xs.length + ys.length ≤ sizeLine := by rw [s1.length, s2.length]; exact g.1
    refine .inr (.inr (.inl ⟨a, b, xs, ys, rfl, rfl, h1.sqT, h2.sqT, hz, fun e1 => ?_, fun _ e2 => ?_, fun _ _ p o hp ho => ?_⟩))
    · subst e1
      cases s1
      exact k _ _ H g.2 (.refl _) (.tup h2 l2 s2)
    · subst e2
      cases s2
      refine k _ _ H g.2 (.refl _) ?_
      rw [List.append_nil]
      exact .tup h1 l1 s1
    · exact k _ _ _ g.2 (.new hp) (.newT hp ho (by simpa using hz) (s1.append s2))
  · obtain ⟨a, xs, rfl, h1, l1, s1⟩ := sx.lst_at
    obtain ⟨b, ys, rfl, h2, l2, s2⟩ := sy.lst_at
    have hz : xs.length + ys.length ≤ sizeLine := by rw [s1.length, s2.length]; exact g.1
    exact .inr (.inr (.inr ⟨a, b, xs, ys, rfl, rfl, h1, h2, hz, fun p hp => k _ _ _ g.2 (.new hp) (.newL hp (by simpa using hz) (s1.append s2))⟩))
  · exact g.elim
def gIn : G2
  | d, .lst ys, P => (cmpOk d ∧ cmpOk (.lst ys)) ∧ P (.bl (ys.any fun y => eqD y d))
  | _, _, _ => False
def gNotIn : G2
  | d, .lst ys, P => (cmpOk d ∧ cmpOk (.lst ys)) ∧ P (.bl (!ys.any fun y => eqD y d))
  | _, _, _ => False
theorem any_pys (ds : List Dat) (d : Dat) : ((pys ds).any fun z => PyData.eqv z (py d)) = ds.any fun y => eqD y d := by
  induction ds with
  | nil => rfl
  | cons x r ih =>
    show (PyData.eqv (py x) (py d) || (pys r).any _) = _
    rw [ih]
    rfl
theorem od_inL : OpD K (rInD K) gIn := fun n x y d e H Q P g sx sy k => by
  unfold gIn at g
  split at g
  · exact ⟨py _, pys _, sx.dp g.1.1.1, sy.dp g.1.2.1, sx.shaped g.1.1, sy.shaped g.1.2, by rw [any_pys]; exact k _ _ H g.2 (.refl _) (.bl _)⟩
  · exact g.elim
theorem od_notInL : OpD K (rNotInD K) gNotIn := fun n x y d e H Q P g sx sy k => by
  unfold gNotIn at g
  split at g
  · exact ⟨py _, pys _, sx.dp g.1.1.1, sy.dp g.1.2.1, sx.shaped g.1.1, sy.shaped g.1.2, by rw [any_pys]; exact k _ _ H g.2 (.refl _) (.bl _)⟩
  · exact g.elim
def flatK : Dat → Bool
  | .non => true | .bl _ => true | .int _ => true | .str _ => true
  | _ => false
def vOf : Dat → V
  | .non => .non | .bl b => .bl b | .int i => .int i | .str x => .str x
  | _ => .non
theorem Sees.flat {v : V} {d : Dat} (h : Sees K n H v d) (f : flatK d = true) : v = vOf d := by
  cases h <;> first | rfl | cases f
theorem SeesL.flat : ∀ {vs : List V} {ds : List Dat}, SeesL K n H vs ds → ds.all flatK = true → vs = ds.map vOf
  | _, _, .nil => fun _ => rfl
  | _, _, .cons h r => fun p => by
    rw [List.all_cons, Bool.and_eq_true] at p
    rw [h.flat p.1, r.flat p.2]
    rfl
theorem flat_vOf {d : Dat} (f : flatK d = true) : flatV (vOf d) = true := by
  cases d <;> first | rfl | cases f
def eqF (d e : Dat) : Bool := eqV (vOf d) (vOf e)
def gInT : G2
  | d, .tup ys, P => (flatK d = true ∧ ys.all flatK = true) ∧ P (.bl (ys.any fun y => eqF y d))
  | _, _, _ => False
def gNotInT : G2
  | d, .tup ys, P => (flatK d = true ∧ ys.all flatK = true) ∧ P (.bl (!ys.any fun y => eqF y d))
  | _, _, _ => False
theorem inV_map (d : Dat) (ys : List Dat) : inV (vOf d) (ys.map vOf) = ys.any fun y => eqF y d := by
  unfold inV
  rw [List.any_map]
  rfl
theorem od_inT : OpD K (rIn K false) gInT := fun n x y d e H Q P g sx sy k => by
  unfold gInT at g
  split at g
  · obtain ⟨a, xs, rfl, h1, l1, s1⟩ := sy.tup_iff
    rw [sx.flat g.1.1]
    rw [s1.flat g.1.2] at h1
    exact ⟨a, _, rfl, .inr h1, flat_vOf g.1.1, List.all_eq_true.mpr fun z hz => by
      obtain ⟨w, hw, e⟩ := List.mem_map.mp hz
      rw [← e]
      exact flat_vOf (List.all_eq_true.mp g.1.2 w hw), by
      rw [inV_map]
      exact k _ _ H g.2 (.refl _) (.bl _)⟩
  · exact g.elim
theorem od_notInT : OpD K (rIn K true) gNotInT := fun n x y d e H Q P g sx sy k => by
  unfold gNotInT at g
  split at g
  · obtain ⟨a, xs, rfl, h1, l1, s1⟩ := sy.tup_iff
    rw [sx.flat g.1.1]
    rw [s1.flat g.1.2] at h1
    exact ⟨a, _, rfl, .inr h1, flat_vOf g.1.1, List.all_eq_true.mpr fun z hz => by
      obtain ⟨w, hw, e⟩ := List.mem_map.mp hz
      rw [← e]
      exact flat_vOf (List.all_eq_true.mp g.1.2 w hw), by
      rw [inV_map]
      exact k _ _ H g.2 (.refl _) (.bl _)⟩
  · exact g.elim
def gInS : G2
  | .str ⟨⟨[c]⟩⟩, .str z, P => P (.bl (decide (c ∈ z.cps.toList)))
  | _, _, _ => False
theorem od_inS : OpD K (fun x y H Q => ∃ (c : Nat) (z : Str), x = .str ⟨#[c]⟩ ∧ y = .str z ∧ Q (.bl (decide (c ∈ z.cps.toList))) H) gInS := fun n x y d e H Q P g sx sy k => by
  unfold gInS at g
  split at g
  · exact ⟨_, _, sx.str_iff.1, sy.str_iff.1, k _ _ H g (.refl _) (.bl _)⟩
  · exact g.elim
def rInAny (K : PySem.W.Frag) : R2 := fun x y H Q => rInD K x y H Q ∨ rIn K false x y H Q ∨ ∃ (c : Nat) (z : Str), x = .str ⟨#[c]⟩ ∧ y = .str z ∧ Q (.bl (decide (c ∈ z.cps.toList))) H
theorem op_inAny (hu : X.A.units + 65 < cLine) : OpR X (compareOp .In) (rInAny X.K) := (op_inD hu).or (op_in_seq.or op_in_sign)
def gInAny : G2 := fun d e P => gIn d e P ∨ gInT d e P ∨ gInS d e P
theorem od_inAny : OpD K (rInAny K) gInAny := fun n x y d e H Q P g sx sy k => by
  rcases g with g | g | g
  · exact .inl (od_inL n x y d e H Q P g sx sy k)
  · exact .inr (.inl (od_inT n x y d e H Q P g sx sy k))
  · exact .inr (.inr (od_inS n x y d e H Q P g sx sy k))
def rNotInAny (K : PySem.W.Frag) : R2 := fun x y H Q => rNotInD K x y H Q ∨ rIn K true x y H Q
theorem op_notInAny (hu : X.A.units + 65 < cLine) : OpR X (compareOp .NotIn) (rNotInAny X.K) := (op_notInD hu).or op_notIn_seq
def gNotInAny : G2 := fun d e P => gNotIn d e P ∨ gNotInT d e P
theorem od_notInAny : OpD K (rNotInAny K) gNotInAny := fun n x y d e H Q P g sx sy k => by
  rcases g with g | g
  · exact .inl (od_notInL n x y d e H Q P g sx sy k)
  · exact .inr (od_notInT n x y d e H Q P g sx sy k)
def lenD : Dat → (Nat → Prop) → Prop
  | .str x, P => P x.length
  | .byt x, P => P x.size
  | .tup xs, P => P xs.length
  | .lst xs, P => P xs.length
  | .scr ns, P => P ns.length
  | _, _ => False
def gLen : GA
  | [d], P => lenD d fun i => P (.int (i : Nat))
  | _, _ => False
theorem SeesL.one {vs : List V} {d : Dat} (s : SeesL K n H vs [d]) : ∃ v, vs = [v] ∧ Sees K n H v d := by
  cases s with
  | cons h r => cases r; exact ⟨_, rfl, h⟩
theorem SeesL.two {vs : List V} {d e : Dat} (s : SeesL K n H vs [d, e]) : ∃ v u, vs = [v, u] ∧ Sees K n H v d ∧ Sees K n H u e := by
  cases s with
  | cons h r =>
    obtain ⟨u, rfl, h2⟩ := r.one
    exact ⟨_, _, rfl, h, h2⟩
theorem cd_len : CallD K (fun xs H Q => ∃ x n, xs = [x] ∧ LenV K x H n ∧ Q (.int n) H) gLen := fun n vs ds H Q P g s k => by
  unfold gLen at g
  split at g
  · obtain ⟨v, rfl, w⟩ := s.one
    unfold lenD at g
    split at g
    · obtain ⟨rfl, h⟩ := w.str_iff
      exact ⟨_, _, rfl, ⟨h.1, rfl⟩, k _ _ H g (.refl _) (.int _)⟩
    · obtain ⟨rfl, h⟩ := w.byt_iff
      exact ⟨_, _, rfl, ⟨h, rfl⟩, k _ _ H g (.refl _) (.int _)⟩
    · obtain ⟨a, xs, rfl, h1, l1, s1⟩ := w.tup_iff
      exact ⟨_, _, rfl, .inr ⟨xs, h1, rfl⟩, k _ _ H g (.refl _) (by rw [s1.length]; exact .int _)⟩
    · obtain ⟨a, xs, rfl, h1, l1, s1⟩ := w.lst_iff
      exact ⟨_, _, rfl, .inl ⟨xs, h1, rfl⟩, k _ _ H g (.refl _) (by rw [s1.length]; exact .int _)⟩
    · cases w with
      | scr h1 => exact ⟨_, _, rfl, .inl ⟨_, h1, rfl⟩, k _ _ H g (.refl _) (by rw [List.length_map]; exact .int _)⟩
    · exact g.elim
  · exact g.elim
def bools : List Dat → (List Bool → Prop) → Prop
  | [], P => P []
  | .bl b :: r, P => bools r fun bs => P (b :: bs)
  | _, _ => False
theorem bools_of : ∀ {ds : List Dat} {P : List Bool → Prop}, bools ds P → ∃ bs, ds = bs.map Dat.bl ∧ P bs
  | [], _, h => ⟨[], rfl, h⟩
  | .bl b :: r, _, h => by
    obtain ⟨bs, rfl, p⟩ := bools_of (ds := r) h
    exact ⟨b :: bs, rfl, p⟩
theorem bools_map (bs : List Bool) {P : List Bool → Prop} (h : P bs) : bools (bs.map Dat.bl) P := by
  induction bs generalizing P with
  | nil => exact h
  | cons b r ih => exact ih h
theorem SeesL.bls : ∀ {vs : List V} {bs : List Bool}, SeesL K n H vs (bs.map Dat.bl) → vs = bs.map V.bl := fun {vs bs} s => by
  induction bs generalizing vs with
  | nil => cases s; rfl
  | cons b r ih =>
    cases s with
    | cons h t => rw [h.bl_iff, ih t]; rfl
def gAll : GA
  | [.lst ds], P => bools ds fun bs => P (.bl (bs.all id))
  | _, _ => False
theorem cd_all : CallD K (rAll K) gAll := fun n vs ds H Q P g s k => by
  unfold gAll at g
  split at g
  · obtain ⟨v, rfl, w⟩ := s.one
    obtain ⟨bs, rfl, p⟩ := bools_of g
    obtain ⟨a, xs, rfl, h1, l1, s1⟩ := w.lst_iff
    rw [s1.bls] at h1
    exact ⟨a, bs, rfl, h1, k _ _ H p (.refl _) (.bl _)⟩
  · exact g.elim
end
end Aim
namespace Aim
open PySem PySem.Spec PyProof.Rows L2
open LamX (TabB Tabs CodeO)
open Stt (cnt sto)
variable {S : Type} [Stt S]
section
variable {K : PySem.W.Frag} {TT : List (Addr × Str)} {E : XK} {X : Cx} {n : S} {H H' : Hp}
theorem atI_sees {vs : List V} {ds : List Dat} {i : Int} {d : Dat} (s : SeesL K n H vs ds) (h : atI ds i = some d) : ∃ v, atI vs i = some v ∧ Sees K n H v d := by
  unfold atI at h ⊢
  rw [s.length]
  cases e : ixN ds.length i with
  | none => rw [e] at h; cases h
  | some j =>
    rw [e] at h
    exact s.getD h
def optD {α : Type} : Option α → (α → Prop) → Prop
  | some d, P => P d
  | none, _ => False
theorem optD_of {α : Type} {o : Option α} {P : α → Prop} (h : optD o P) : ∃ d, o = some d ∧ P d := by
  cases o with
  | some d => exact ⟨d, rfl, h⟩
  | none => exact h.elim
def gIx : G2
  | .lst ds, .int i, P => optD (atI ds i) P
  | .tup ds, .int i, P => optD (atI ds i) P
  | .str z, .int i, P => optD (atI z.cps.toList i) fun c => P (.str ⟨#[c]⟩)
  | .scr ns, .int i, P => optD (atI ns i) fun z => P (.int z)
  | _, _, _ => False
theorem strB_one {z : Str} (h : StrB z) {c : Nat} (m : c ∈ z.cps.toList) : StrB ⟨#[c]⟩ := by
  refine ⟨by show 1 ≤ sizeLine; decide, ?_⟩
  have q := h.2
  rw [Array.all_eq_true'] at q
  simpa using q c (by simpa using m)
theorem atI_mem {α : Type} {xs : List α} {i : Int} {c : α} (h : atI xs i = some c) : c ∈ xs := by
  unfold atI at h
  cases e : ixN xs.length i with
  | none => rw [e] at h; cases h
  | some j =>
    rw [e] at h
    exact List.mem_of_getElem? h
theorem atI_map {ns : List Int} {i c : Int} (h : atI ns i = some c) : atI (ns.map V.int) i = some (.int c) := by
  unfold atI at h ⊢
  rw [List.length_map]
  cases e : ixN ns.length i with
  | none => rw [e] at h; cases h
  | some j =>
    rw [e] at h
    show (ns.map V.int)[j]? = _
    rw [List.getElem?_map]
    have h : ns[j]? = some c := h
    rw [h]
    rfl
theorem od_ix : OpD K (rIx K) gIx := fun n x y d e H Q P g sx sy k => by
  unfold gIx at g
  split at g
  · obtain ⟨z, e1, p⟩ := optD_of g
    obtain ⟨a, xs, rfl, h1, l1, s1⟩ := sx.lst_iff
    obtain ⟨v, e2, s2⟩ := atI_sees s1 e1
    exact .inl ⟨a, xs, _, v, rfl, sy.int_iff, h1, e2, k _ v H p (.refl _) s2⟩
  · obtain ⟨z, e1, p⟩ := optD_of g
    obtain ⟨a, xs, rfl, h1, l1, s1⟩ := sx.tup_iff
    obtain ⟨v, e2, s2⟩ := atI_sees s1 e1
    exact .inr (.inl ⟨a, xs, _, v, rfl, sy.int_iff, h1, e2, k _ v H p (.refl _) s2⟩)
  · obtain ⟨c, e1, p⟩ := optD_of g
    obtain ⟨rfl, hz⟩ := sx.str_iff
    exact .inr (.inr ⟨_, _, c, rfl, sy.int_iff, hz.1, e1, k _ _ H p (.refl _) (.str _ (strB_one hz (atI_mem e1)))⟩)
  · obtain ⟨c, e1, p⟩ := optD_of g
    cases sx with
    | scr h1 => exact .inl ⟨_, _, _, .int c, rfl, sy.int_iff, h1, atI_map e1, k _ _ H p (.refl _) (.int _)⟩
  · exact g.elim
def cutD (xs : List Dat) (lo hi : Option Int) : List Dat := (xs.drop (HT.sIx xs.length 0 lo)).take (HT.sIx xs.length xs.length hi - HT.sIx xs.length 0 lo)
theorem cut_sees {vs : List V} {ds : List Dat} (s : SeesL K n H vs ds) (lo hi : Option Int) : SeesL K n H (cutV vs lo hi) (cutD ds lo hi) := by
  unfold cutV cutD
  rw [s.length]
  exact (s.drop _).take _
def gSl : GS
  | .lst ds, lo, hi, P => P (.lst (cutD ds lo hi))
  | .tup ds, lo, hi, P => P (.tup (cutD ds lo hi))
  | .str z, lo, hi, P => P (.str (cutS z lo hi))
  | _, _, _, _ => False
theorem cut_whole {α : Type} (xs : List α) (lo hi : Option Int) (h : HT.sIx xs.length 0 lo = 0 ∧ HT.sIx xs.length xs.length hi = xs.length) : (xs.drop (HT.sIx xs.length 0 lo)).take (HT.sIx xs.length xs.length hi - HT.sIx xs.length 0 lo) = xs := by
  rw [h.1, h.2]
  simp
theorem strB_cut {z : Str} (h : StrB z) (lo hi : Option Int) : StrB (cutS z lo hi) := by
  refine ⟨Nat.le_trans (cutS_length z lo hi) h.1, ?_⟩
  have q := h.2
  rw [Array.all_eq_true'] at q ⊢
  intro c hc
  refine q c ?_
  unfold cutS at hc
  simp only [List.mem_toArray] at hc
  have := List.mem_of_mem_drop (List.mem_of_mem_take hc)
  simpa using this
def rSlAny (K : PySem.W.Frag) : V → Option Int → Option Int → Hp → VK → Prop := fun x lo hi H Q => rSlL K x lo hi H Q ∨ rSlN K x lo hi H Q ∨ rSlS x lo hi H Q
theorem slOr {r r' : V → Option Int → Option Int → Hp → VK → Prop} (h : L2.SlR X r) (h' : L2.SlR X r') : L2.SlR X fun x lo hi H Q => r x lo hi H Q ∨ r' x lo hi H Q := by
  intro pins s σ H x v vl vu lo hi sl Q I rx hs pl pu q
  rcases q with q | q
  · exact h pins s σ H x v vl vu lo hi sl Q I rx hs pl pu q
  · exact h' pins s σ H x v vl vu lo hi sl Q I rx hs pl pu q
theorem sl_any : L2.SlR X (rSlAny X.K) := slOr sl_list (slOr sl_tupN sl_str)
theorem sd_any : SlD K (rSlAny K) gSl := fun n x d lo hi H Q P g sx k => by
  unfold gSl at g
  split at g
  · obtain ⟨a, xs, rfl, h1, l1, s1⟩ := sx.lst_iff
    exact .inl ⟨a, xs, rfl, h1, fun p hp => k _ _ _ g (.new hp) (.newL hp (Nat.le_trans (cutV_length xs lo hi) l1) (cut_sees s1 lo hi))⟩
  · obtain ⟨a, xs, rfl, h1, l1, s1⟩ := sx.tup_iffN
    refine .inr (.inl ⟨a, xs, rfl, h1.sqT, fun w => ?_, fun _ p o hp ho => k _ _ _ g (.new hp) (.newT hp ho (Nat.le_trans (cutV_length xs lo hi) l1) (cut_sees s1 lo hi))⟩)
    refine k _ _ H g (.refl _) ?_
    have e : cutD _ lo hi = _ := cut_whole _ lo hi (by rw [← s1.length]; exact w)
    rw [e]
    exact .tup h1 l1 s1
  · obtain ⟨rfl, hz⟩ := sx.str_iff
    exact .inr (.inr ⟨_, rfl, hz.1, k _ _ H g (.refl _) (.str _ (strB_cut hz lo hi))⟩)
  · exact g.elim
theorem de_sl {a : Expr} {lo hi : Option Expr} {fa : GDE S} {l u : GDO S} {p2 pos : Pos} (ha : PE X a (LE X.K TT E fa)) (hl : PO X lo (LO X.K TT E l)) (hu : PO X hi (LO X.K TT E u)) : PE X (.Subscript a (.Slice lo hi none p2) pos) (LE X.K TT E (dSl gSl fa l u)) := (pe_slice sl_any ha hl hu).imp fun _ _ _ h => h.sl sd_any
def gInt : GA
  | [.int i], P => P (.int i)
  | [.bl b], P => P (.int (if b then 1 else 0))
  | [.str a], P => a.length ≤ 640 ∧ optD (PySem.intText? a) fun i => P (.int i)
  | _, _ => False
def rIntA : List V → Hp → VK → Prop := fun xs H Q => ((∃ i, xs = [.int i] ∧ Q (.int i) H) ∨ ∃ k, xs = [.bl k] ∧ Q (.int (if k then 1 else 0)) H) ∨ ∃ a n, xs = [.str a] ∧ PySem.intText? a = some n ∧ a.length ≤ 640 ∧ Q (.int n) H
theorem callOr {f : Value} {r r' : List V → Hp → VK → Prop} (h : CallR X f r) (h' : CallR X f r') : CallR X f fun xs H Q => r xs H Q ∨ r' xs H Q := by
  intro pins s σ H xs us Q I rx q
  rcases q with q | q
  · exact h pins s σ H xs us Q I rx q
  · exact h' pins s σ H xs us Q I rx q
theorem call_intA : CallR X (.type "int") rIntA := callOr call_int1 call_int_str
theorem cd_int : CallD K rIntA gInt := fun n vs ds H Q P g s k => by
  unfold gInt at g
  split at g
  · obtain ⟨v, rfl, w⟩ := s.one
    exact .inl (.inl ⟨_, by rw [w.int_iff], k _ _ H g (.refl _) (.int _)⟩)
  · obtain ⟨v, rfl, w⟩ := s.one
    exact .inl (.inr ⟨_, by rw [w.bl_iff], k _ _ H g (.refl _) (.int _)⟩)
  · obtain ⟨v, rfl, w⟩ := s.one
    obtain ⟨i, e, p⟩ := optD_of g.2
    exact .inr ⟨_, i, by rw [w.str_iff.1], e, g.1, k _ _ H p (.refl _) (.int _)⟩
  · exact g.elim
def gAbs : GA
  | [.int i], P => P (.int (if i < 0 then -i else i))
  | _, _ => False
theorem cd_abs : CallD K (fun xs H Q => ∃ i, xs = [.int i] ∧ Q (.int (if i < 0 then -i else i)) H) gAbs := fun n vs ds H Q P g s k => by
  unfold gAbs at g
  split at g
  · obtain ⟨v, rfl, w⟩ := s.one
    exact ⟨_, by rw [w.int_iff], k _ _ H g (.refl _) (.int _)⟩
  · exact g.elim
def g2I (f : Int → Int → Int) : GA
  | [.int i, .int j], P => P (.int (f i j))
  | _, _ => False
theorem cd_2I (f : Int → Int → Int) : CallD K (fun xs H Q => ∃ i j, xs = [.int i, .int j] ∧ Q (.int (f i j)) H) (g2I f) := fun n vs ds H Q P g s k => by
  unfold g2I at g
  split at g
  · obtain ⟨v, u, rfl, w1, w2⟩ := s.two
    exact ⟨_, _, by rw [w1.int_iff, w2.int_iff], k _ _ H g (.refl _) (.int _)⟩
  · exact g.elim
def gStr : GA
  | [.int i], P => i.natAbs.log2 < 1920 ∧ StrB (toString i : Str) ∧ P (.str (toString i))
  | _, _ => False
theorem cd_str : CallD K (fun xs H Q => ∃ i, xs = [.int i] ∧ i.natAbs.log2 < 1920 ∧ Q (.str (toString i)) H) gStr := fun n vs ds H Q P g s k => by
  unfold gStr at g
  split at g
  · obtain ⟨v, rfl, w⟩ := s.one
    exact ⟨_, by rw [w.int_iff], g.1, k _ _ H g.2.2 (.refl _) (.str _ g.2.1)⟩
  · exact g.elim
def gListF (f : GDE S) : GDA S := fun ρ n P R => f ρ n (fun d m => match d with
  | .lst ds => P ds m
  | .tup ds => P ds m
  | _ => False) R
theorem lf_list {f : GDE S} {σ : L2.St} {H : Hp} {Q : VK} (h : LF K TT E (gListF f) σ H Q) : tCB (fun xs H Q => ∃ p ys, xs = [.ref p] ∧ (SqL K H p ys ∨ SqT K H p ys) ∧ ∀ l, H l = none → Q (.ref l) (upd H l (.lst ys))) (tCons (LE K TT E f) tNil) σ H Q := by
  obtain ⟨ρ, n, P, R, r, q, k, x⟩ := h
  refine ⟨ρ, n, _, R, r, q, fun d m v H1 z e s => ?_, x⟩
  split at z
  · obtain ⟨a, xs, rfl, h1, l1, s1⟩ := s.lst_iff
    exact ⟨a, xs, rfl, .inl h1, fun l hl => lf_grow k z e r.st hl l1 s1⟩
  · obtain ⟨a, xs, rfl, h1, l1, s1⟩ := s.tup_iff
    exact ⟨a, xs, rfl, .inr h1, fun l hl => lf_grow k z e r.st hl l1 s1⟩
  · exact z.elim
def gDisp (fr : GDA S) : GDA S := fun ρ n P R => fr ρ n (fun ds m => ds.length ≤ sizeLine ∧ P ds m) R
theorem lf_disp {fr : GDA S} {σ : L2.St} {H : Hp} {Q : VK} (h : LF K TT E (gDisp fr) σ H Q) : tLst (LA K TT E fr) σ H Q := by
  obtain ⟨ρ, n, P, R, r, q, k, x⟩ := h
  exact ⟨ρ, n, _, R, r, q, fun ds m vs H1 z e s => ⟨by rw [s.length]; exact z.1, fun l hl => lf_grow k z.2 e r.st hl (by rw [s.length]; exact z.1) s⟩, x⟩
def gTupOf : GA
  | [.lst ds], P => P (.tup ds)
  | [.tup ds], P => P (.tup ds)
  | _, _ => False
theorem cd_tup : CallD K (fun xs H Q => ∃ p ys, xs = [.ref p] ∧ ((SqL K H p ys ∧ NewT H Q ys) ∨ (SqT K H p ys ∧ Q (.ref p) H))) gTupOf := fun n vs ds H Q P g s k => by
  unfold gTupOf at g
  split at g
  · obtain ⟨v, rfl, w⟩ := s.one
    obtain ⟨a, xs, rfl, h1, l1, s1⟩ := w.lst_iff
    exact ⟨a, xs, rfl, .inl ⟨h1, fun l o hl ho => k _ _ _ g (.new hl) (.newT hl ho l1 s1)⟩⟩
  · obtain ⟨v, rfl, w⟩ := s.one
    obtain ⟨a, xs, rfl, h1, l1, s1⟩ := w.tup_iffN
    exact ⟨a, xs, rfl, .inr ⟨h1.sqT, k _ _ H g (.refl _) (.tup h1 l1 s1)⟩⟩
  · exact g.elim
def isStr : Dat → Bool
  | .str _ => true
  | _ => false
theorem ty_str : TyD K "str" isStr := fun n x d H s e => by
  cases s <;> first | rfl | cases e
def txts : List Dat → (List Str → Prop) → Prop
  | [], P => P []
  | .str b :: r, P => txts r fun bs => P (b :: bs)
  | _, _ => False
theorem txts_of : ∀ {ds : List Dat} {P : List Str → Prop}, txts ds P → ∃ bs, ds = bs.map Dat.str ∧ P bs
  | [], _, h => ⟨[], rfl, h⟩
  | .str b :: r, _, h => by
    obtain ⟨bs, rfl, p⟩ := txts_of (ds := r) h
    exact ⟨b :: bs, rfl, p⟩
theorem txts_map (bs : List Str) {P : List Str → Prop} (h : P bs) : txts (bs.map Dat.str) P := by
  induction bs generalizing P with
  | nil => exact h
  | cons b r ih => exact ih h
theorem SeesL.txts : ∀ {vs : List V} {bs : List Str}, SeesL K n H vs (bs.map Dat.str) → vs = bs.map V.str ∧ ∀ b ∈ bs, StrB b := fun {vs bs} s => by
  induction bs generalizing vs with
  | nil => cases s; exact ⟨rfl, fun _ z => nomatch z⟩
  | cons b r ih =>
    cases s with
    | cons h t =>
      obtain ⟨e1, e2⟩ := ih t
      rw [h.str_iff.1, e1]
      refine ⟨rfl, fun c hc => ?_⟩
      rcases List.mem_cons.mp hc with z | z
      · rw [z]
        exact h.str_iff.2
      · exact e2 c z
theorem SeesL.ofStrs {bs : List Str} (h : ∀ b ∈ bs, StrB b) : SeesL K n H (bs.map V.str) (bs.map Dat.str) := by
  induction bs with
  | nil => exact .nil
  | cons b r ih => exact .cons (.str b (h b (by simp))) (ih fun c hc => h c (by simp [hc]))
def gJoin : GM
  | .str a, [.lst ds], P => txts ds fun bs => (bs.map (·.length)).sum + bs.length * a.length ≤ 16777216 ∧ StrB (Txt.join a bs) ∧ P (.str (Txt.join a bs))
  | .str a, [.tup ds], P => txts ds fun bs => (bs.map (·.length)).sum + bs.length * a.length ≤ 16777216 ∧ StrB (Txt.join a bs) ∧ P (.str (Txt.join a bs))
  | _, _, _ => False
theorem md_join : MethD K "str" (fun x xs H Q => ∃ a p, ∃ ys : List Str, x = .str a ∧ xs = [.ref p] ∧ (SqL K H p (ys.map V.str) ∨ SqT K H p (ys.map V.str)) ∧ (ys.map (·.length)).sum + ys.length * a.length ≤ 16777216 ∧ Q (.str (Txt.join a ys)) H) gJoin := fun n x d vs ds H Q P g sx s k => by
  unfold gJoin at g
  split at g
  · obtain ⟨v, rfl, w⟩ := s.one
    obtain ⟨bs, rfl, p⟩ := txts_of g
    obtain ⟨a, xs, rfl, h1, l1, s1⟩ := w.lst_iff
    rw [s1.txts.1] at h1
    exact ⟨_, a, bs, sx.str_iff.1, rfl, .inl h1, p.1, k _ _ H p.2.2 (.refl _) (.str _ p.2.1)⟩
  · obtain ⟨v, rfl, w⟩ := s.one
    obtain ⟨bs, rfl, p⟩ := txts_of g
    obtain ⟨a, xs, rfl, h1, l1, s1⟩ := w.tup_iff
    rw [s1.txts.1] at h1
    exact ⟨_, a, bs, sx.str_iff.1, rfl, .inr h1, p.1, k _ _ H p.2.2 (.refl _) (.str _ p.2.1)⟩
  · exact g.elim
def tyK : Dat → Option String
  | .non => some "NoneType" | .bl _ => some "bool" | .int _ => some "int" | .str _ => some "str" | .byt _ => some "bytes"
  | .tup _ => some "tuple" | .lst _ => some "list" | .dct _ _ => some "dict"
  | _ => none
theorem Sees.tyx {v : V} {d : Dat} {t : String} (s : Sees K n H v d) (h : tyK d = some t) : TyX K H v (.type t) := by
  cases s with
  | non => cases h; exact .base .non
  | bl b => cases h; exact .base (.bl b)
  | int i => cases h; exact .base (.int i)
  | str x l => cases h; exact .base (.str x)
  | byt x l => cases h; exact .byt x
  | tup h1 l s1 => cases h; exact tyX_sqT h1.sqT
  | lst h1 l s1 => cases h; exact .base (.lst h1)
  | dct h1 l s1 =>
    cases h
    rcases h1 with h1 | ⟨o, h1⟩
    · exact .base (.dK h1)
    · exact .fDict h1
  | _ => cases h
def isT (T : String) (t : String) : Bool := t == T || (T == "int" && t == "bool")
theorem kit_T {T t : String} (hT : T = "int" ∨ T = "bool" ∨ T = "str" ∨ T = "tuple" ∨ T = "list" ∨ T = "bytes" ∨ T = "dict") (ht : t = "NoneType" ∨ t = "bool" ∨ t = "int" ∨ t = "str" ∨ t = "bytes" ∨ t = "tuple" ∨ t = "list" ∨ t = "dict") : PySem.W.kitOne K (.type t) (.type T) = some (isT T t) := by
  rcases hT with h | h | h | h | h | h | h <;> subst h <;> rcases ht with h | h | h | h | h | h | h | h <;> subst h <;> exact kit_ty (by decide +kernel)
theorem tyK_mem {d : Dat} {t : String} (h : tyK d = some t) : t = "NoneType" ∨ t = "bool" ∨ t = "int" ∨ t = "str" ∨ t = "bytes" ∨ t = "tuple" ∨ t = "list" ∨ t = "dict" := by
  cases d <;> simp [tyK] at h <;> subst h <;> simp
def gIsT (T : String) : GA
  | [d, .ty T'], P => T' = T ∧ optD (tyK d) fun t => P (.bl (isT T t))
  | _, _ => False
theorem cd_isT {T : String} (hT : T = "int" ∨ T = "bool" ∨ T = "str" ∨ T = "tuple" ∨ T = "list" ∨ T = "bytes" ∨ T = "dict") : CallD K (rIsi K) (gIsT T) := fun n vs ds H Q P g s k => by
  unfold gIsT at g
  split at g
  · obtain ⟨v, u, rfl, w1, w2⟩ := s.two
    obtain ⟨rfl, g⟩ := g
    obtain ⟨t, e, p⟩ := optD_of g
    rw [w2.ty_iff]
    exact ⟨v, _, _, _, _, rfl, .ty _, w1.tyx e, kit_T hT (tyK_mem e), k _ _ H p (.refl _) (.bl _)⟩
  · exact g.elim
def gTL : Dat → (Dat → Prop) → Prop := fun d P => optD (tyK d) fun t => P (.bl (t == "tuple" || t == "list"))
theorem de_isTL {a : Expr} {f : GDE S} {x1 : Nat} {p1 p2 p3 p4 pos : Pos} (h : PE X (.Call (.Name "isinstance" p1) [a, .Tuple [.Name "tuple" p2, .Name "list" p3] x1 p4] [] pos) (tCB (rIsiT X.K) (tCons (LE X.K TT E f) (tCons (tTup (tCons (tC (.ty "tuple")) (tCons (tC (.ty "list")) tNil))) tNil)))) :
    PE X (.Call (.Name "isinstance" p1) [a, .Tuple [.Name "tuple" p2, .Name "list" p3] x1 p4] [] pos) (LE X.K TT E (dUn gTL f)) := h.imp fun σ H Q hz7 => ex8 hz7 fun ρ n P R r q k x => by
  refine ⟨ρ, n, _, R, r, q, fun d m v H1 z e s => ⟨by show 2 ≤ sizeLine; decide, fun p hp => ?_⟩, x⟩
  obtain ⟨t, e1, z⟩ := optD_of z
  have g : Grow H1 (upd H1 p (.tup [.ty "tuple", .ty "list"])) := .new hp
  refine ⟨v, p, _, _, [.type "tuple", .type "list"], (t == "tuple" || t == "list"), rfl, upd_same, .cons (.ty _) (.cons (.ty _) .nil), (s.grow g).tyx e1, ?_, k _ m _ _ z (e.trans (.grow g)) (.bl _)⟩
  have ht := tyK_mem e1
  have e2 : isT "tuple" t = (t == "tuple") := by rcases ht with h | h | h | h | h | h | h | h <;> subst h <;> rfl
  have e3 : isT "list" t = (t == "list") := by rcases ht with h | h | h | h | h | h | h | h <;> subst h <;> rfl
  refine kitAny_cons (kit_T (T := "tuple") (by simp) ht) (fun w => ?_) fun w => by rw [← e2, w, Bool.true_or]
  refine kitAny_cons (kit_T (T := "list") (by simp) ht) (fun w2 => ?_) fun w2 => by rw [← e3, w2, Bool.or_true]
  rw [e2] at w
  rw [e3] at w2
  rw [w, w2]
  rfl
def dRaise (C : Addr) (f : GDE S) : GDS S := fun P ρ n => f ρ n (fun d m => P.ex C d m) P.ex
theorem ds_raise {C : Addr} {st : Stmt} {f : GDE S} (h : PS X st (fun _ σ H => tMkA C (LE K TT E f) σ H fun cls d H' => E cls d H')) : PS X st (LS K TT E (dRaise C f)) := h.imp fun D σ H hz7 => ex6 hz7 fun ρ n P r q k => ⟨ρ, n, _, P.ex, r, q, fun d m v H1 z e s dd hd => k.ex.ex C d m dd v _ z (e.toFra.trans (.grow (.new hd))) upd_same (s.grow (.new hd)), k.ex.toE⟩
def gVal (C : Addr) : Dat → (Dat → Prop) → Prop
  | .exc C' d, P => C' = C ∧ P d
  | _, _ => False
theorem de_val {C D f0 : Addr} {e : Expr} {f : GDE S} (c : AimC X.K f0 D C) (h : PE X e (tXcv X.K (LE X.K TT E f))) : PE X e (LE X.K TT E (dUn (gVal C) f)) := h.imp fun σ H Q hz7 => ex8 hz7 fun ρ n P R r q k x => ⟨ρ, n, _, R, r, q, fun d m v H1 z e s => by
  unfold gVal at z
  split at z
  · obtain ⟨rfl, z⟩ := z
    cases s with
    | exc h1 h2 h3 => exact ⟨_, _, _, _, _, _, rfl, h1, c, h2, k _ m _ H1 z e h3⟩
  · exact z.elim, x⟩
def gIsX (K : PySem.W.Frag) (C : Addr) : Dat → (Dat → Prop) → Prop
  | .non, P => PySem.W.kitOne K (.type "NoneType") (.ref C) = some false ∧ P (.bl false)
  | .exc C' _, P => (∃ f D, AimC K f D C') ∧ ∃ b, PySem.W.kitOne K (.ref C') (.ref C) = some b ∧ P (.bl b)
  | _, _ => False
theorem call_isiX : CallR X (.builtin "isinstance") (fun xs H Q => rIsi X.K xs H Q ∨ rIsX X.K xs H Q) := callOr call_isi call_isX
theorem de_isX {C : Addr} {e : Expr} {f : GDE S} (h : PE X e (tCB (fun xs H Q => rIsi X.K xs H Q ∨ rIsX X.K xs H Q) (tCons (LE X.K TT E f) (tCons (tC (.ref C)) tNil)))) : PE X e (LE X.K TT E (dUn (gIsX X.K C) f)) := h.imp fun σ H Q hz7 => ex8 hz7 fun ρ n P R r q k x => ⟨ρ, n, _, R, r, q, fun d m v H1 z e s => by
  unfold gIsX at z
  split at z
  · rw [s.non_iff]
    exact .inl ⟨.non, .ref C, _, _, false, rfl, .own C, .base .non, z.1, k _ m _ H1 z.2 e (.bl _)⟩
  · obtain ⟨⟨f0, D, c⟩, b, hb, z⟩ := z
    cases s with
    | exc h1 h2 h3 => exact .inr ⟨_, _, f0, D, _, _, _, b, rfl, h1, c, ⟨_, _, rfl, h2⟩, .own C, hb, k _ m _ H1 z e (.bl _)⟩
  · exact z.elim, x⟩
def dCaught (K : PySem.W.Frag) (AE : Addr) (f : GDE S) : GDE S := fun ρ n P R => f ρ n (fun _ m => P .non m) fun C d m => PySem.W.exmOne K (.ref C) (.ref AE) = some true ∧ P (.exc C d) m
theorem de_caught {AE : Addr} {e : Expr} {f : GDE S} (h : PE X e (LamX.tLam TT (TTc X.K AE) (fun E => LE X.K TT E f))) : PE X e (LE X.K TT E (dCaught X.K AE f)) := h.imp fun σ H Q hq80 => by
  obtain ⟨ρ, n, P, R, r, q, k, x⟩ := hq80
  refine ⟨x.tab, fun H1 ext tab1 => ?_⟩
  have e0 : Frb n H n H1 := ⟨Nat.le_refl _, fun b o e p => ext b o e p.2.2, fun b j l e => ⟨j, l, ext b _ e fun _ z => by unfold PotO at z; cases z⟩⟩
  have e1 : Fre X.K TT n H n H1 := ⟨⟨e0, fun _ => tab1, fun t => t.mono e0 rfl fun b xs sh _ e => ext b _ e fun _ z => by unfold OwnS at z; cases z⟩, fun b xs e s => ⟨ext b _ e (fun _ z => by unfold OwnS at z; cases z), s⟩⟩
  refine ⟨ρ, n, _, _, r.fre e1, q, fun d m v H2 z e2 s => k _ m _ H2 z (e1.trans e2) .non, ⟨tab1, fun C d m dd v H2 z e2 hd s => ⟨z.1, fun a ha => ?_⟩⟩⟩
  exact k _ m _ _ z.2 ((e1.trans e2).trans (.grow (.new ha))) (.exc upd_same (Grow.new ha _ _ hd) (s.grow (.new ha)))
end
end Aim
namespace Aim
open PySem PySem.Spec PyProof.Rows L2
open LamX (TabB Tabs CodeO)
open Stt (cnt sto)
variable {S : Type} [Stt S]
section
variable {K : PySem.W.Frag} {TT : List (Addr × Str)} {E : XK} {X : Cx} {n : S} {H H' : Hp} {e : Expr} {st : Stmt}
def gPot (n : Nat) : G2
  | .pot, .int i, P => (i = 0 ∧ ∀ d : Int, 0 ≤ d → P (.int d)) ∨ (i = 1 ∧ ∀ m : Int, -(2 ^ 62) < m → m < 2 ^ 62 → P (.int m)) ∨ (i = 2 ∧ ∀ t : Int, 0 ≤ t → t ≤ n → P (.int t))
  | _, _, _ => False
def dOpN (g : Nat → G2) (fa fb : GDE S) : GDE S := fun ρ n P R => fa ρ n (fun d m => fb ρ m (fun e k => g (cnt k) d e fun z => P z k) R) R
theorem de_ixPot {fa fb : GDE S} (h : PE X e (tOp rIxP (LE K TT E fa) (LE K TT E fb))) : PE X e (LE K TT E (dOpN gPot fa fb)) := h.imp fun σ H Q hq80 => by
  obtain ⟨ρ, n, P, R, rl, f, k, x⟩ := hq80
  refine ⟨ρ, n, _, R, rl, f, fun d m v H1 q1 e1 s1 => ⟨ρ, m, _, R, rl.fre e1, q1, fun e j u H2 q2 e2 s2 => ?_, x.mono e1⟩, x⟩
  unfold gPot at q2
  split at q2
  · have s3 := s1.mono e2.toFra
    cases s3 with
    | pot hp l =>
      have e3 := e1.trans e2
      refine ⟨_, _, _, rfl, s2.int_iff, hp, ?_⟩
      rcases q2 with ⟨i0, q⟩ | ⟨i1, q⟩ | ⟨i2, q⟩
      · exact .inl ⟨i0, fun d d0 => k _ j _ H2 (q d d0) e3 (.int _)⟩
      · exact .inr (.inl ⟨i1, fun m m0 m1 => k _ j _ H2 (q m m0 m1) e3 (.int _)⟩)
      · exact .inr (.inr ⟨i2, fun t t0 t1 => k _ j _ H2 (q t t0 (by omega)) e3 (.int _)⟩)
  · exact q2.elim
def gSetPot (nx : S → Prop) (k : S) : Dat → Dat → Dat → Prop
  | .pot, .int j, .int z => (j = 0 ∧ 0 ≤ z ∧ nx (Stt.at_ k (cnt k + 1))) ∨ (j = 2 ∧ 0 ≤ z ∧ z ≤ cnt k + 1 ∧ nx (Stt.at_ k (cnt k + 1)))
  | _, _, _ => False
def dSetPot (fe fo fi : GDE S) : GDS S := fun P ρ n => fe ρ n (fun v m => fo ρ m (fun o j => fi ρ j (fun i k => gSetPot (P.nx ρ) k o i v) P.ex) P.ex) P.ex
theorem ds_setPot {fe fo fi : GDE S} (h : PS X st (tAsg (LE K TT E fe) (gSub (LE K TT E fo) (LE K TT E fi) rSetP))) : PS X st (LS K TT E (dSetPot fe fo fi)) := h.imp fun D σ H hq80 => by
  obtain ⟨ρ, n, P, rl, f, k⟩ := hq80
  refine ⟨ρ, n, _, P.ex, rl, f, fun v m u H1 q1 e1 s1 => ⟨ρ, m, _, P.ex, rl.fre e1, q1, fun o j w H2 q2 e2 s2 => ⟨ρ, j, _, P.ex, (rl.fre e1).fre e2, q2, fun i l y H3 q3 e3 s3 => ?_, (k.ex.toE.mono e1).mono e2⟩, k.ex.toE.mono e1⟩, k.ex.toE⟩
  unfold gSetPot at q3
  split at q3
  · have s4 := s2.mono e3.toFra
    have e5 := (e1.trans e2).trans e3
    cases s4 with
    | pot hp lp =>
      refine ⟨_, _, _, _, rfl, s3.int_iff, s1.int_iff, hp, ?_⟩
      rcases q3 with ⟨j0, z0, q⟩ | ⟨j2, z0, z1, q⟩
      · refine .inl ⟨j0, z0, _, Nat.le_refl _, ?_⟩
        have ep := e5.trans (.pots (m := Stt.at_ l (cnt l + 1)) hp (by rw [Stt.cnt_at]; exact Nat.le_succ_of_le lp) (by rw [Stt.cnt_at]; exact Nat.le_succ _) (Stt.sto_at _ _))
        exact k.nx ρ _ σ _ q ep.toFra (rl.fre ep)
      · refine .inr ⟨j2, cnt l + 1, by omega, z0, by push_cast; omega, ?_⟩
        have ep := e5.trans (.pots (m := Stt.at_ l (cnt l + 1)) hp (by rw [Stt.cnt_at]; exact Nat.le_refl _) (by rw [Stt.cnt_at]; exact Nat.le_succ _) (Stt.sto_at _ _))
        exact k.nx ρ _ σ _ q ep.toFra (rl.fre ep)
  · exact q3.elim
def gNewPot : List Dat → (Dat → Prop) → Prop
  | [.int d, .int m, .int t], P => PotB d m t 0 ∧ P .pot
  | _, _ => False
theorem de_newPot {fr : GDA S} (h : PE X e (tPot (tLst (LA K TT E fr)))) : PE X e (LE K TT E (dCB gNewPot fr)) := h.imp fun σ H Q hz7 => ex8 hz7 fun ρ n P R rl f k x => ⟨ρ, n, _, R, rl, f, fun ds m vs H1 q1 e1 s1 => by
  unfold gNewPot at q1
  split at q1
  · cases s1 with
    | cons a s1 =>
      cases s1 with
      | cons b s1 =>
        cases s1 with
        | cons c s1 =>
          cases s1
          rw [a.int_iff, b.int_iff, c.int_iff]
          refine ⟨by show 3 ≤ sizeLine; decide, fun p hp => ⟨p, _, _, _, 0, rfl, upd_same, q1.1, ?_⟩⟩
          rw [upd_upd]
          exact k _ m _ _ q1.2 (e1.trans (.grow (.new hp))) (.pot upd_same (Nat.zero_le _))
  · exact q1.elim, x⟩
theorem numL_rg : ∀ (lo : Int) (k : Nat), SeesL K n H ((List.range k).map fun i => V.int (lo + (i : Nat))) (numL lo k) := by
  intro lo k
  have h : ∀ (k : Nat) (lo : Int) (b : Nat), SeesL K n H ((List.range' b k).map fun i => V.int (lo + (i : Nat))) (numL (lo + b) k) := by
    intro k
    induction k with
    | zero => intro lo b; exact .nil
    | succ k ih =>
      intro lo b
      rw [List.range'_succ]
      refine .cons (.int _) ?_
      have := ih lo (b + 1)
      have e : lo + ((b + 1 : Nat) : Int) = lo + b + 1 := by push_cast; omega
      rw [e] at this
      exact this
  have z := h k lo 0
  rw [← List.range_eq_range'] at z
  simpa using z
def gRg1 (f : GDE S) : GDA S := fun ρ n P R => f ρ n (fun d m => asI d fun j => (-1000000 ≤ j ∧ j ≤ 1000000) ∧ P (numL 0 j.toNat) m) R
theorem lf_rg1 {f : GDE S} {σ : L2.St} {H : Hp} {Q : VK} (h : LF K TT E (gRg1 f) σ H Q) : tLstRg (tRg1 (LE K TT E f)) σ H Q := by
  obtain ⟨ρ, n, P, R, r, q, k, x⟩ := h
  refine ⟨ρ, n, _, R, r, q, fun d m v H1 z e s => ?_, x⟩
  obtain ⟨j, rfl, ⟨h0, h1⟩, z⟩ := asI_of z
  refine ⟨j, s.int_iff, ⟨by omega, by omega, by omega, by omega, by omega⟩, fun l hl => ?_⟩
  refine lf_grow k z e r.st hl ?_ ?_
  · rw [rgV_length]
    have : (j - 0).toNat ≤ 1000000 := by omega
    exact Nat.le_trans this (by decide)
  · unfold rgV
    rw [Int.sub_zero]
    exact numL_rg 0 _
def gAppend : GO
  | ds, [a], P => ds.length < sizeLine ∧ P (ds ++ [a])
  | _, _, _ => False
theorem od_append : OwnD K rAppend gAppend := fun n l xs vs ds as G H Q P g sx sv hl lx k => by
  unfold gAppend at g
  split at g
  · obtain ⟨v, rfl, w⟩ := sv.one
    have h := g.1
    rw [← sx.length] at h
    exact ⟨l, xs, v, rfl, rfl, hl, h, k _ _ g.2 (sx.append (.cons w .nil)) (by rw [List.length_append, List.length_singleton]; omega)⟩
  · exact g.elim
def gInsert : GO
  | ds, [.int i, a], P => (ds.length < sizeLine ∧ 0 ≤ i ∧ i < 2 ^ 63) ∧ P (ds.take i.toNat ++ [a] ++ ds.drop i.toNat)
  | _, _, _ => False
theorem od_insert : OwnD K (fun x vs H Q => ∃ (l : Addr) (xs : List V) (i : Int) (y : V), x = .ref l ∧ vs = [.int i, y] ∧ H l = some (.lst xs) ∧ xs.length < sizeLine ∧ 0 ≤ i ∧ i < 2 ^ 63 ∧ Q .non (upd H l (.lst (xs.take i.toNat ++ [y] ++ xs.drop i.toNat)))) gInsert := fun n l xs vs ds as G H Q P g sx sv hl lx k => by
  unfold gInsert at g
  split at g
  · obtain ⟨v, u, rfl, w1, w2⟩ := sv.two
    obtain ⟨⟨h, h0, h1⟩, g⟩ := g
    rw [← sx.length] at h
    refine ⟨l, xs, _, u, rfl, by rw [w1.int_iff], hl, h, h0, h1, k _ _ g (((sx.take _).append (.cons w2 .nil)).append (sx.drop _)) ?_⟩
    simp only [List.length_append, List.length_take, List.length_drop, List.length_singleton]
    omega
  · exact g.elim
theorem tabs_map2 {H G : Hp} (t : Tabs TT H) (k : ∀ b o, H b = some o → (∃ ps, o = .tbl ps) ∨ (∃ q, o = CodeO b q) → G b = some o) : Tabs TT G := fun x hx => by
  obtain ⟨ps, h1, h2, h3⟩ := t x hx
  refine ⟨ps, k _ _ h1 (.inl ⟨_, rfl⟩), h2, fun pos cv hc => ?_⟩
  obtain ⟨c, e1, e2⟩ := h3 pos cv hc
  exact ⟨c, e1, k _ _ e2 (.inr ⟨_, rfl⟩)⟩
def dBor (i : Nat) (f : DE) : DE := fun ρ n P _ => ownOf (slAt ρ i) fun ds => f (ρ.set i (.val (.lst ds))) n (fun d m => flatK d = true ∧ P d m) R0
theorem flat_sees {m k : S} {H1 H2 : Hp} {v : V} {d : Dat} (s : Sees K m H1 v d) (f : flatK d = true) : Sees K k H2 v d := by
  cases s with
  | non => exact .non
  | bl b => exact .bl b
  | int i => exact .int i
  | str x l => exact .str x l
  | _ => cases f
theorem de_bor {i : Nat} {f : DE} (h : PE X e (LE K TT E f)) : PE X e (LE K TT E (dBor i f)) := ⟨fun pins s σ H Q I hq80 => by
  obtain ⟨ρ, n, P, R, rl, q, k, x⟩ := hq80
  obtain ⟨ds, hρ, q⟩ := ownOf_of q
  obtain ⟨a, xs, hσ, l, hH, hs, sx⟩ := rl.owned hρ
  have fm : Fra K TT n H n (upd H a (.lst xs)) := .melt l hH hs
  have me : Owns ρ σ i a := ⟨⟨ds, hρ⟩, hσ⟩
  have rl2 : Rel K (ρ.set i (.val (.lst ds))) n σ (upd H a (.lst xs)) := by
    have z := (Rel.drop (i := i) (o := none) rl).mono fm (k2 := fun i C x dx ks ds zs _ hx hd s1 s2 => ⟨⟨not_makes hH l hd, not_hid hH hx⟩, s1, s2⟩) fun j b zs ow lz eb sb => ⟨by
      rw [upd_ne]
      intro w
      subst w
      obtain ⟨⟨ds', e1⟩, e2⟩ := ow
      by_cases hij : i = j
      · subst hij
        rw [List.getElem?_set] at e1
        split at e1
        · split at e1 <;> cases e1
        · rename_i w
          exact w rfl
      · rw [List.getElem?_set_ne hij] at e1 e2
        exact rl.ap i j b b hij me ⟨⟨ds', e1⟩, e2⟩ rfl, sb⟩
    have w := z.put (i := i) (Sees.lstOf (K := K) (n := n) (H := upd H a (.lst xs)) upd_same l (sx.mono fm))
    simp only [List.set_set] at w
    rw [(rl.here hρ hσ).2] at w
    exact w
  refine thn (h.run pins s σ (upd H a (.lst xs)) (fun v H1 => H1 a = some (.lst xs) ∧ Q v (upd H1 a (OwnO xs a))) (of_own I hH) ⟨_, n, _, R0, rl2, q, fun d m v H1 q1 e1 s1 => ?_, .zero (fm.tab x.tab)⟩) fun u s1 ⟨v, H1, J, r, ha, q1⟩ => ⟨v, _, to_own J ha, r, q1⟩
  have ha : H1 a = some (.lst xs) := e1.keep _ _ upd_same (perm_ext (fun _ z => nomatch z) fun _ z => nomatch z)
  refine ⟨ha, k d m v _ q1.2 ⟨⟨⟨e1.le, fun b o eb p => ?_, fun b j lj eb => ?_⟩, fun t => ?_, fun _ => .nat⟩, fun b ys eb _ => ⟨?_, rfl⟩⟩ (flat_sees s1 q1.1)⟩
  · have hb := own_perm l hH eb p
    rw [upd_ne hb]
    exact e1.keep b o (by rw [upd_ne hb]; exact eb) p
  · have hb : b ≠ a := fun z => by
      subst z
      rw [hH] at eb
      exact own_pot (Option.some.inj eb)
    obtain ⟨i, h1, h2⟩ := e1.pot b j lj (by rw [upd_ne hb]; exact eb)
    exact ⟨i, h1, by rw [upd_ne hb]; exact h2⟩
  · refine tabs_map2 (e1.tab (fm.tab t)) fun b o w kind => ?_
    rw [upd_ne fun z => ?_]
    · exact w
    · subst z
      rw [ha] at w
      cases w
      rcases kind with ⟨ps, z⟩ | ⟨q, z⟩
      · cases z
      · unfold CodeO at z
        cases z
  · by_cases hb : b = a
    · subst hb
      rw [hH] at eb
      rw [upd_same]
      exact eb
    · rw [upd_ne hb]
      exact (e1.own b ys (by rw [upd_ne hb]; exact eb) rfl).1⟩
end
end Aim
namespace Aim
open PySem PySem.Spec PyProof.Rows L2
open LamX (TabB Tabs CodeO)
open Stt (cnt sto)
variable {S : Type} [Stt S]
section
variable {P : Program} {w : World} {K : PySem.W.Frag} {mg : Str → Option Value} {base : Heap} {TT : List (Addr × Str)} {G : Bool} {x : Str} {st : Stmt} {N ps : List Str} {k : Nat} {sp : GDSp S}
theorem dat_okC {c : Addr} (F : HasC K mg x st c) (hb : ∀ (kV doc pm : Value) (an : Option Addr) (cdv ct : Value) (us : List Value), us.length = ps.length → bindArgs (PySem.W.fnOf x x (defArgs st) (defBody st) (defScope st) .none kV doc pm an cdv ct) ⟨us, []⟩ = pure (ps.zip us)) (S : FnScope N ps (defScope st))
    (body : ∀ (f : Addr) (A : Around) (outer : List Env) (s : Shared) (H : Hp) (E : XK), Room k (A.deeper (envOfC x (defScope st) s.heap.objs.size f (.ref c))) → (G = true → A.guards = some []) →
      ∃ g, PSs (cxOf (L2.CX P w) P w K mg base N x (defScope st) f (.ref c) A outer s H E).nox (defBody st) (LS K TT E0 g) ∧ ∀ ds n PP R, sp ds n PP R → ds.length = ps.length ∧ g { nx := fun _ m => PP .non m, rt := PP, ex := R0 } (dstart N ds) n)
    (hl : ∀ ds n PP R, sp ds n PP R → ds.length = ps.length) : Df P w K mg base G (k + 1) x (LSp K TT sp) := by
  refine df_okC F S (fun vs H Q E h => ?_) hb (fun f A outer s H vs Q E hr hG h => ?_)
  · obtain ⟨ds, n, PP, R, s, h, _⟩ := h
    rw [s.length]
    exact hl _ _ _ _ h
  · obtain ⟨g, hp, q⟩ := body f A outer s H E hr hG
    obtain ⟨ds, n, PP, R, se, h, kQ, kE, kS⟩ := h
    exact ⟨_, hp, ends_of se (q ds n PP R h).2 kQ (.zero kE.tab) kS⟩
def GC (K : PySem.W.Frag) (mg : Str → Option Value) (x : Str) (d : Dat) : Prop := ∃ v u, mg x = some u ∧ RelV v u ∧ ∀ {U : Type} [Stt U] (n : U) (H : Hp), Sees K n H v d
end
section
variable {X : Cx} {TT : List (Addr × Str)} {E : XK} {x : Str} {d : Dat} {pos : Pos}
theorem de_g (hg : Gl X x) (h : GC X.K X.mg x d) (hd : (x == ("__debug__" : Str)) = false := by decide) : PE X (.Name x pos) (LE (S := S) X.K TT E (dC d)) := by
  obtain ⟨v, u, h1, h2, h3⟩ := h
  exact de_c (pe_glob hg h1 h2 hd) h3
end
theorem units65 {k : Nat} {A : Around} (r : Room k A) : A.units + 65 < cLine := by have := r.un; omega
def nameT : List Nat → DGs
  | [] => dgNil
  | i :: r => dgCons (dgName i) (nameT r)
theorem dgl_len : ∀ {l : List Nat} {ds : List Dat} {ρ : List Sl} {Q : List Sl → Prop}, nameT l ds ρ Q → ds.length = l.length
  | [], ds, _, _, h => dgl_nil h
  | i :: r, [], _, _, h => False.elim h
  | i :: r, d :: ds, _, _, h => congrArg (· + 1) (dgl_len (l := r) (show nameT r ds _ _ from h))
def dCut (g1 g2 : GDS S) : GDS S := fun P ρ n => ∃ M : List Sl → S → Prop, g1 { P with nx := M } ρ n ∧ ∀ ρ' m, M ρ' m → g2 P ρ' m
theorem dss_cut {K : PySem.W.Frag} {TT : List (Addr × Str)} {E : XK} {X : Cx} {st : Stmt} {sts : List Stmt} {g1 g2 : GDS S} (h1 : PS X st (LS K TT E g1)) (h2 : PSs X sts (LS K TT E g2)) : PSs X (st :: sts) (LS K TT E (dCut g1 g2)) := (pss_cons h1 h2).imp fun D σ H ⟨ρ, n, P, r, ⟨M, f, q⟩, k⟩ =>
  ⟨ρ, n, { P with nx := M }, r, f, ⟨fun ρ' m σ' H' z e r' => ⟨ρ', m, P, r', q ρ' m z, k.mono e⟩, k.rt, k.bk, k.ct, k.ex⟩⟩
def dForI (fi : GDI S) (tg : DG) (body : GDS S) : GDS S := fun P ρ n => fi ρ n (fun ds m => ∃ I : Nat → List Sl → S → Prop, I 0 ρ m ∧
  (∀ i d ρ' j, ds[i]? = some d → I i ρ' j → tg d ρ' fun ρ2 => body { P with nx := I (i + 1), ct := I (i + 1), bk := P.nx } ρ2 j) ∧ ∀ ρ' j, I ds.length ρ' j → P.nx ρ' j) P.ex
section
variable {K : PySem.W.Frag} {TT : List (Addr × Str)} {E : XK} {X : Cx}
theorem LS.forI {fi : GDI S} {vs : List Nat} {tg : DG} {body : GDS S} {D : Ends} {σ : L2.St} {H : Hp} (h : LS K TT E (dForI fi tg body) D σ H) : tFor (LI K TT E fi) (LG (S := S) K vs tg) (LS K TT E body) D σ H := by
  obtain ⟨ρ, n, P, r, f, k⟩ := h
  refine ⟨ρ, n, _, P.ex, r, f, fun ds m J H1 q e it => ?_, k.ex.toE⟩
  have k1 := k.mono e.toFra
  obtain ⟨I, i0, st, dn⟩ := q
  refine ⟨fun i j σ' H' => j = ds.length - i ∧ i ≤ ds.length ∧ ∃ ρ' m', Rel K ρ' m' σ' H' ∧ Fra K TT m H1 m' H' ∧ I i ρ' m', ⟨ds.length, by simp, Nat.zero_le _, ρ, m, r.fre e, .refl, i0⟩, ?_⟩
  rintro i j σ' H' ⟨rfl, hi, ρ', m', r', g, l⟩
  by_cases hlt : i < ds.length
  · refine .inr ⟨it.goes i _ _ hlt g, fun σ2 H2 => ∃ ρ2 m2, Rel K ρ2 m2 σ2 H2 ∧ Fra K TT m H1 m2 H2 ∧ I (i + 1) ρ2 m2, fun σ2 H2 z => ⟨ds.length - (i + 1), by omega, rfl, hlt, z⟩, fun x H2 y => ?_⟩
    obtain ⟨gr, sx⟩ := it.yields i m' H' x H2 _ (List.getElem?_eq_getElem hlt) g y
    have g2 := g.trans (.grow gr)
    refine ⟨ρ', m', _, _, r'.grow gr, sx H2 g2 (fun _ _ e _ => e), st i _ ρ' m' (List.getElem?_eq_getElem hlt) l, fun ρ3 σ3 b3 r3 _ => ⟨ρ3, m', _, r3, b3, ?_⟩⟩
    exact ⟨fun ρ4 m4 σ4 H4 q4 g4 r4 => ⟨ρ4, m4, r4, g2.trans g4, q4⟩, fun d m4 v H4 q4 g4 s4 => k1.rt d m4 v H4 q4 (g2.trans g4) s4, fun ρ4 m4 σ4 H4 q4 g4 r4 => k1.nx ρ4 m4 σ4 H4 q4 (g2.trans g4) r4, fun ρ4 m4 σ4 H4 q4 g4 r4 => ⟨ρ4, m4, r4, g2.trans g4, q4⟩, k1.ex.mono g2⟩
  · have e : i = ds.length := by omega
    subst e
    exact .inl ⟨it.stops _ _ g, k1.nx ρ' m' σ' H' (dn _ _ l) g r'⟩
theorem ds_forI {iter tg : Expr} {body : List Stmt} {fi : GDI S} {vs : List Nat} {g : DG} {gb : GDS S} {pos : Pos} (hp : PassesOwn (model X.prog X.w) X.A X.env X.xe) (hc : X.calm = true) (hi : PI X tg iter (LI K TT E fi)) (hg : PG X tg (LG (S := S) K vs g)) (hb : PSs X body (LS K TT E gb))
    (hs : ∀ x, foldedSetIterable iter X.env x = pure x := by intro _; rfl) : PS X (.For tg iter body [] pos) (LS K TT E (dForI fi g gb)) := (ps_for hp hc hi hg hb hs).imp fun _ _ _ h => h.forI
end
def compI (l : List Nat) (tg : DG) (tt : GDT S) (fe : GDE S) (ρ : List Sl) (P : List Dat → S → Prop) (ds : List Dat) (m : S) : Prop := ∃ I : Nat → List Dat → S → Prop, I 0 [] m ∧
  (∀ i d acc j, ds[i]? = some d → I i acc j → tg d (wiped ρ l) fun ρ' => tt ρ' j (fun b k => if b = true then fe ρ' k (fun y z => I (i + 1) (acc ++ [y]) z) R0 else I (i + 1) acc k) R0) ∧ ∀ acc j, I ds.length acc j → P acc j
def dLcI (fi : GDI S) (l : List Nat) (tg : DG) (tt : GDT S) (fe : GDE S) : GDA S := fun ρ n P R => fi ρ n (fun ds m => compI l tg tt fe ρ P ds m) R
theorem compI_pure {l : List Nat} {tg : DG} {tt : GDT S} {fe : GDE S} {ρ : List Sl} {P : List Dat → S → Prop} {ds : List Dat} {m : S} (f : Dat → Option Dat)
    (h : ∀ d ∈ ds, ∀ (Q : Dat → S → Prop) (Z : S → Prop), (∀ y, f d = some y → Q y m) → (f d = none → Z m) → tg d (wiped ρ l) fun ρ' => tt ρ' m (fun b k => if b = true then fe ρ' k Q R0 else Z k) R0) (k : P (ds.filterMap f) m) : compI l tg tt fe ρ P ds m := by
  refine ⟨fun i acc j => acc = (ds.take i).filterMap f ∧ j = m, ⟨by simp, rfl⟩, fun i d acc j hd ⟨e1, e2⟩ => ?_, fun acc j ⟨e1, e2⟩ => ?_⟩
  · subst e1
    subst e2
    have ht : ds.take (i + 1) = ds.take i ++ [d] := by
      rw [List.take_add_one, hd]
      rfl
    refine h d (List.mem_of_getElem? hd) _ _ (fun y hy => ⟨?_, rfl⟩) (fun hy => ⟨?_, rfl⟩)
    · rw [ht, List.filterMap_append]
      simp [hy]
    · rw [ht, List.filterMap_append]
      simp [hy]
  · rw [e1, e2, List.take_length]
    exact k
theorem compI_map {l : List Nat} {tg : DG} {fe : GDE S} {ρ : List Sl} {P : List Dat → S → Prop} {ds : List Dat} {m : S} (f : Dat → Dat)
    (h : ∀ d ∈ ds, ∀ (Q : Dat → S → Prop), Q (f d) m → tg d (wiped ρ l) fun ρ' => fe ρ' m Q R0) (k : P (ds.map f) m) : compI l tg (fun _ n P _ => P true n) fe ρ P ds m := by
  refine compI_pure (fun d => some (f d)) (fun d hd Q Z q _ => h d hd Q (q _ rfl)) ?_
  rw [List.filterMap_eq_map']
  exact k
section
variable {K : PySem.W.Frag} {TT : List (Addr × Str)} {E : XK} {X : Cx}
theorem comp_of {l : List Nat} {tg : DG} {tt : GDT S} {fe : GDE S} {ρ : List Sl} {P : List Dat → S → Prop} {σ : L2.St} {H : Hp} {fi : GDI S} {vs : List Nat} {Q : VK} (hl : ∀ i ∈ vs, i ∈ l) (h : LF K TT E (dLcI fi l tg tt fe) σ H Q) : tLc (LI K TT E fi) (gHide (LG (S := S) K vs tg)) (tHideT (LTs K TT E0 tt)) (tHide (LE K TT E0 fe)) l σ H Q := by
  obtain ⟨ρ, n, P, R, r, f, k, x⟩ := h
  refine ⟨ρ, n, _, R, r, f, fun ds m J H1 q e it D hD => ?_, x⟩
  obtain ⟨I, i0, st, dn⟩ := q
  have tab1 := e.tab x.tab
  have r1 := r.fre e
  have hD0 : ∀ {sh : Shp} (ys : List V), H D = some (OwnS sh ys D) → sto n D ≠ none := fun ys w ws => by rw [(e.own D ys w ws).1] at hD; cases hD
  have sD : sto m D = none := r1.st.free hD
  refine ⟨fun i j H' => j = ds.length - i ∧ i ≤ ds.length ∧ ∃ m' xs as, H' D = some (.lst xs) ∧ xs.length ≤ i ∧ sto m' D = none ∧ Fre K TT m H1 m' (upd H' D (OwnO xs D)) ∧ SeesL K m' (upd H' D (OwnO xs D)) xs as ∧ I i as m', ⟨ds.length, by simp, Nat.zero_le _, m, [], [], upd_same, Nat.le_refl _, sD, ?_, .nil, i0⟩, ?_⟩
  · rw [upd_upd]
    exact .grow (.new hD)
  rintro i j H' ⟨rfl, hi, m', xs, as, hx, hl', hs', g, sx, c⟩
  by_cases hlt : i < ds.length
  · have c := st i _ as m' (List.getElem?_eq_getElem hlt) c
    have lx : xs.length ≤ sizeLine := Nat.le_trans hl' (Nat.le_trans hi it.len)
    have back : upd (upd H' D (OwnO xs D)) D (.lst xs) = H' := upd_back hx
    have gm : Fra K TT m H1 m' H' := by
      have z := g.toFra.trans (Fra.melt (TT := TT) (n := m') (ys := xs) lx (show upd H' D (OwnO xs D) D = some (OwnO xs D) from upd_same) hs')
      rw [back] at z
      exact z
    refine .inr ⟨it.goes i _ _ hlt gm, fun H2 => ∃ m2 ys bs, H2 D = some (.lst ys) ∧ ys.length ≤ i + 1 ∧ sto m2 D = none ∧ Fre K TT m H1 m2 (upd H2 D (OwnO ys D)) ∧ SeesL K m2 (upd H2 D (OwnO ys D)) ys bs ∧ I (i + 1) bs m2, fun H2 z => ⟨ds.length - (i + 1), by omega, rfl, hlt, z⟩, fun x H2 y => ?_⟩
    obtain ⟨gr, sx2⟩ := it.yields i m' H' x H2 _ (List.getElem?_eq_getElem hlt) gm y
    have hx2 : H2 D = some (.lst xs) := gr _ _ hx
    have gr2 : Grow (upd H' D (OwnO xs D)) (upd H2 D (OwnO xs D)) := fun b o w => by
      by_cases hb : b = D
      · subst hb
        rw [upd_same] at w ⊢
        exact w
      · rw [upd_ne hb] at w ⊢
        exact gr b o w
    have g2 : Fre K TT m H1 m' (upd H2 D (OwnO xs D)) := g.trans (.grow gr2)
    have sx3 := sx2 _ g2.toFra fun b o w1 w2 => by
      rw [upd_ne fun z => by rw [z, hx] at w2; cases w2]
      exact w1
    refine ⟨D, xs, hx2, _, m', _, _, (r1.fre g2).wipe l, sx3, c, fun ρ3 σ3 q3 r3 w3 => ⟨upd_same, ?_⟩⟩
    rw [upd_back hx2]
    refine ⟨(w3 l hl).trans ?_, D, xs, hx2, ρ3, m', _, _, r3, q3, fun b m3 H3 q4 e3 => ⟨(e3.own _ _ upd_same hs').1, ?_⟩, .zero (g2.tab tab1)⟩
    · exact wipe_wipe σ l
    · have o3 : H3 D = some (OwnO xs D) := (e3.own _ _ upd_same hs').1
      have s3 : sto m3 D = none := (e3.own _ _ upd_same hs').2
      have b3 : upd (upd H3 D (.lst xs)) D (OwnO xs D) = H3 := upd_back o3
      have g3 := g2.trans e3
      cases b with
      | true =>
        refine ⟨D, xs, upd_same, ?_⟩
        rw [b3]
        refine ⟨ρ3, m3, _, _, r3.fre e3, q4, fun d4 m4 v4 H4 q5 e4 s4 => ⟨(e4.own _ _ o3 s3).1, xs, upd_same, ?_, m4, xs ++ [v4], as ++ [d4], upd_same, by simp; omega, (e4.own _ _ o3 s3).2, ?_, ?_, q5⟩, .zero (g3.tab tab1)⟩
        · have := it.len
          omega
        all_goals rw [upd_upd, upd_upd]
        · refine ⟨(g3.trans e4).toFra.trans (.own (e4.own _ _ o3 s3).1 (e4.own _ _ o3 s3).2), fun b ys w ws => ?_⟩
          rw [upd_ne fun z => by rw [z, hD] at w; cases w]
          exact (g3.trans e4).own b ys w ws
        · have fo : Fra K TT m4 H4 m4 (upd H4 D (OwnO (xs ++ [v4]) D)) := .own (e4.own _ _ o3 s3).1 (e4.own _ _ o3 s3).2
          exact ((((sx.grow gr2).mono e3.toFra).mono e4.toFra).mono fo).append (.cons (s4.mono fo) .nil)
      | false =>
        refine ⟨m3, xs, as, upd_same, by omega, s3, ?_, ?_, q4⟩
        all_goals rw [b3]
        · exact g3
        · exact ((sx.grow gr2).mono e3.toFra)
  · have e2 : i = ds.length := by omega
    subst e2
    have lx : xs.length ≤ sizeLine := Nat.le_trans hl' it.len
    have back : upd (upd H' D (OwnO xs D)) D (.lst xs) = H' := upd_back hx
    have gm : Fra K TT m H1 m' H' := by
      have z := g.toFra.trans (Fra.melt (TT := TT) (n := m') (ys := xs) lx (show upd H' D (OwnO xs D) D = some (OwnO xs D) from upd_same) hs')
      rw [back] at z
      exact z
    exact .inl ⟨it.stops _ _ gm, k as m' xs D H' (dn _ _ c) hD0 hx lx hs' (e.trans g) sx⟩
variable {e elt tg iter : Expr} {st : Stmt} {pos spos : Pos}
theorem lf_lcI {ifs : List Expr} {scope : Scope} {own : List (Str × Nat)} {fi : GDI S} {vs : List Nat} {g : DG} {tt : GDT S} {fe : GDE S} (hc : X.calm = true) (hN : X.N.Nodup) (hi : PI X tg iter (LI K TT E fi)) (ok : BlkOk X.N X.env.scope scope own)
    (hg : ∀ (s : Shared) (H : Hp) (C : Addr) (cl : List (Str × Addr)) (fp : List Addr), PG (X.blk s H scope (compEnvC scope cl C X.env) fp) tg (LG (S := S) K vs g)) (ht : ∀ (s : Shared) (H : Hp) (C : Addr) (cl : List (Str × Addr)) (fp : List Addr), PTs (X.blk s H scope (compEnvC scope cl C X.env) fp) ifs (LTs K TT E0 tt))
    (he : ∀ (s : Shared) (H : Hp) (C : Addr) (cl : List (Str × Addr)) (fp : List Addr), PE (X.blk s H scope (compEnvC scope cl C X.env) fp) elt (LE K TT E0 fe)) (hl : ∀ i ∈ vs, i ∈ own.map (·.2) := by simp) (hs : ∀ x, foldedSetIterable iter X.env x = pure x := by intro _; rfl) :
    PE X (.ListComp elt [⟨tg, iter, ifs, 0⟩] scope pos) (LF K TT E (dLcI fi (own.map (·.2)) g tt fe)) := (pe_lc hc hN hi ok (fun s H C cl fp => pg_hide (hg s H C cl fp)) (fun s H C cl fp => pts_hide (ht s H C cl fp)) (fun s H C cl fp => pe_hide (he s H C cl fp)) hs).imp fun _ _ _ h => comp_of (ρ := []) (P := fun _ _ => True) hl h
theorem st_lcI {i : Nat} {y : Str} {py : Pos} {ifs : List Expr} {scope : Scope} {own : List (Str × Nat)} {fi : GDI S} {vs : List Nat} {g : DG} {tt : GDT S} {fe : GDE S} (hc : X.calm = true) (hN : X.N.Nodup) (hy : X.N[i]? = some y) (hyl : X.env.scope.names.lookup y = some .local)
    (hsw : swapsWith (.ListComp elt [⟨tg, iter, ifs, 0⟩] scope pos) (some (.Name y py)) spos.line X.env = pure true) (hi : PI X tg iter (LI K TT E fi)) (ok : BlkOk X.N X.env.scope scope own)
    (hg : ∀ (s : Shared) (H : Hp) (C : Addr) (cl : List (Str × Addr)) (fp : List Addr), PG (X.blk s H scope (compEnvC scope cl C X.env) fp) tg (LG (S := S) K vs g)) (ht : ∀ (s : Shared) (H : Hp) (C : Addr) (cl : List (Str × Addr)) (fp : List Addr), PTs (X.blk s H scope (compEnvC scope cl C X.env) fp) ifs (LTs K TT E0 tt))
    (he : ∀ (s : Shared) (H : Hp) (C : Addr) (cl : List (Str × Addr)) (fp : List Addr), PE (X.blk s H scope (compEnvC scope cl C X.env) fp) elt (LE K TT E0 fe)) (hl : ∀ i ∈ vs, i ∈ own.map (·.2) := by simp) (hs : ∀ x, foldedSetIterable iter X.env x = pure x := by intro _; rfl) :
    PS X (.Assign [.Name y py] (.ListComp elt [⟨tg, iter, ifs, 0⟩] scope pos) spos) (tAsg (LF K TT E (dLcI fi (own.map (·.2)) g tt fe)) (gName i)) := (ps_setLc hc hN hy hyl hsw hi ok (fun s H C cl fp => pg_hide (hg s H C cl fp)) (fun s H C cl fp => pts_hide (ht s H C cl fp)) (fun s H C cl fp => pe_hide (he s H C cl fp)) hs).imp fun D σ H h => by
  have h : LF K TT E _ σ H (fun x H1 => gName i x σ H1 D.nx) := h
  exact comp_of (ρ := []) (P := fun _ _ => True) hl h
end
end Aim
namespace Aim
open PySem PySem.Spec PyProof.Rows L2 HT
open LamX (TabB Tabs CodeO)
open Stt (cnt sto)
variable {S : Type} [Stt S]
section
variable {prog : Program} {w : World} {A : Around} {E : Value → Shared → Prop} {s : Shared}
theorem rev_adjust (n : Nat) : Builtin.Slice.sliceAdjust none none (-1) (n : Int) = ((n : Int) - 1, -1) := by
  unfold Builtin.Slice.sliceAdjust
  simp
theorem rev_places (n : Nat) : Builtin.Slice.slicePlaces ((n : Int) - 1) (-1) (-1) = n := by
  unfold Builtin.Slice.slicePlaces
  have h1 : ¬ ((-1 : Int) > 0) := by decide
  simp only [h1, if_false]
  split
  · rw [show (-(-1 : Int)) = 1 by decide, Int.ediv_one]
    omega
  · omega
theorem rev_applied {sl : Addr} {n : Nat} {t : Tok} {Q : Int × Int × Nat → Shared → Prop} (hs : s.heap.IsSliceOf sl .none .none (.int (-1) t)) (h : Q ((n : Int) - 1, -1, n) s) : wpAny (model prog w) A (Builtin.Slice.sliceApplied (.ref sl) (pure (n : Int))) Q E s := by
  obtain ⟨os, hos, hcs, hds⟩ := id hs
  unfold Builtin.Slice.sliceApplied Builtin.Slice.sliceFields
  refine wpAny_bind (wpAny_bind (wpAny_field hos hds (x := .none) rfl (wpAny_bind (wpAny_field hos hds (x := .none) rfl (wpAny_bind (wpAny_field hos hds (x := .int (-1) t) rfl (wpAny_pure ?_)))))))
  refine wpAny_bind (slicePart_int ?_)
  show wpAny _ _ (if ((-1 : Int) == 0) = true then _ else _) _ _ s
  rw [if_neg (by decide)]
  refine wpAny_bind (slicePart_none (wpAny_bind (slicePart_none (wpAny_bind (wpAny_pure ?_)))))
  show wpAny _ _ (match Builtin.Slice.sliceAdjust none none (-1) (n : Int) with | (lo, hi) => pure (lo, (-1 : Int), Builtin.Slice.slicePlaces lo hi (-1))) _ _ s
  rw [rev_adjust n]
  show wpAny _ _ (pure ((n : Int) - 1, (-1 : Int), Builtin.Slice.slicePlaces ((n : Int) - 1) (-1) (-1))) _ _ s
  rw [rev_places]
  exact wpAny_pure h
theorem fm_congr {α β : Type} {f g : α → Option β} : ∀ {l : List α}, (∀ m ∈ l, f m = g m) → l.filterMap f = l.filterMap g
  | [], _ => rfl
  | x :: r, h => by
    rw [List.filterMap_cons, List.filterMap_cons, h x (by simp), fm_congr fun m hm => h m (by simp [hm])]
theorem rev_pick (xs : Array Value) : ((List.range xs.size).filterMap fun (m : Nat) => xs[(((xs.size : Int) - 1) + (m : Int) * (-1)).toNat]?).toArray = xs.toList.reverse.toArray := by
  have e : ∀ m ∈ List.range xs.size, xs[(((xs.size : Int) - 1) + (m : Int) * (-1)).toNat]? = xs[xs.size - 1 - m]? := fun m hm => by
    have := List.mem_range.mp hm
    congr 1
    omega
  rw [fm_congr e]
  have h2 : ((List.range xs.size).filterMap fun m => xs[xs.size - 1 - m]?) = ((List.range xs.size).map fun k => xs.size - 1 - k).filterMap (xs[·]?) := by rw [List.filterMap_map]; rfl
  rw [h2, PySem.W.krv_range, List.filterMap_reverse, PySem.W.krv_all]
theorem getItem_tuple_rev {t sl : Addr} {items : Array Value} {tk : Tok} {Q : Value → Shared → Prop} (ht : IsTup s.heap t items) (hs : s.heap.IsSliceOf sl .none .none (.int (-1) tk))
    (h : Q (.ref s.heap.objs.size) { s with heap := s.heap.push { cls := .type "tuple", data := .seq items.toList.reverse.toArray } }) (hsz : items.size ≤ sizeLine) : wpAny (model prog w) A (getItem (.ref t) (.ref sl)) Q E s := by
  have htake : sizeOk (.seq items.toList.reverse.toArray) := by
    show items.toList.reverse.toArray.size ≤ sizeLine
    simpa using hsz
  obtain ⟨os, hos, hcs, hds⟩ := id hs
  have hTs : s.TypeIs (.ref sl) "slice" := ⟨os, hos, hcs⟩
  unfold getItem
  try with_reducible refine wpAny_holding ?_
  first | refine wpAny_bind (wpAny_pure ?_) | skip
  refine wpAny_bind (wpAny_sequenceKey ht.typeIs (by decide) ?_)
  refine wpAny_bind (wpAny_callSpecial?_slot (name := Str.ofString "__getitem__") ht.typeIs PyProof.Rows.slot_tuple_getitem
    (wpAny_call_entry PyProof.Rows.slot_tuple_getitem ht.typeIs PyProof.Rows.entry_tuple_getitem ?_ (PyProof.Rows.args_tuple_getitem _ _)))
  show wpAny _ _ (Builtin.Tuple.tupleItemsOf (.ref t) >>= _) _ _ s
  refine wpAny_bind (tupleItemsOf_ ht ?_)
  refine wpAny_bind (wpAny_typeOf hTs ?_)
  rw [if_pos (by decide)]
  refine wpAny_bind (rev_applied hs ?_)
  have hno : ¬ ((((items.size : Int) - 1) == 0 && (-1 : Int) == 1 && items.size == items.size) = true) := by simp
  show wpAny _ _ (if (((items.size : Int) - 1) == 0 && (-1 : Int) == 1 && items.size == items.size) = true then _ else _) _ _ s
  rw [if_neg hno, rev_pick]
  first
    | exact wpAny_bind (m := Builtin.Tuple.tupleExact _) (wpAny_newObj_type (wpAny_pure ⟨_, rfl, wpAny_pure h⟩) htake)
    | exact wpAny_bind (m := Builtin.Tuple.tupleExact _) (wpAny_newObj_type (wpAny_bind (wpAny_pure (wpAny_pure ⟨_, rfl, wpAny_pure h⟩))) htake)
    | exact wpAny_bind (wpAny_bind (m := Builtin.Tuple.tupleExact _) (wpAny_newObj_type (wpAny_pure (wpAny_pure ⟨_, rfl, wpAny_pure h⟩)) htake))
    | exact wpAny_bind (wpAny_bind (m := Builtin.Tuple.tupleExact _) (wpAny_newObj_type (wpAny_pure ⟨_, rfl, wpAny_pure h⟩) htake))
end
section
variable {X : Cx} {TT : List (Addr × Str)} {E : XK}
def tRevT (K : PySem.W.Frag) (te : TE) : TE := fun σ H Q => te σ H fun x H1 => ∃ a xs, x = .ref a ∧ SqT K H1 a xs ∧ NewT H1 Q xs.reverse
theorem pe_revT {e : Expr} {te : TE} {k : Nat} {p1 p2 p3 pos : Pos} (he : PE X e te) : PE X (.Subscript e (.Slice none none (some (.UnaryOp .USub (.Constant (.int 1) k p1) p2)) p3) pos) (tRevT X.K te) := by
  refine ⟨fun pins s σ H Q I h => ?_⟩
  refine Subscript_ (thn (he.run pins s σ H _ I h) fun v s1 hq90 => ?_)
  obtain ⟨x, H1, I1, r1, q1⟩ := hq90
  obtain ⟨a, xs, ex, hx, q⟩ := q1
  subst ex
  cases r1
  have hst : PO X (some (.UnaryOp .USub (.Constant (.int 1) k p1) p2)) (tPart (tUn (rU fun i => .int (-i)) (tC (.int 1)))) := po_some (pe_un un_neg pe_int)
  refine wpAny_Slice (thn (po_none.run pins s1 σ H1 (fun o H2 => o = none ∧ H2 = H1) I1 ⟨rfl, rfl⟩) fun vl s2 hq90 => ?_)
  obtain ⟨l, H2, I2, pl, el, e2⟩ := hq90
  subst el e2
  refine thn (po_none.run pins s2 σ H2 (fun o H3 => o = none ∧ H3 = H2) I2 ⟨rfl, rfl⟩) fun vu s3 hq9 => ?_
  obtain ⟨u, H3, I3, pu, eu, e3⟩ := hq9
  subst eu e3
  refine thn (hst.run pins s3 σ H3 (fun o H4 => o = some (-1) ∧ H4 = H3) I3 ⟨1, rfl, -1, rfl, rfl, rfl⟩) fun vs s4 hq9 => ?_
  obtain ⟨o, H4, I4, ps, eo, e4⟩ := hq9
  subst eo e4
  have I5 : Inv X pins σ H4 { s4 with heap := s4.heap.push { cls := .type "slice", data := .fields #[vl, vu, vs] } } := I4.kept (t' := s4.toks) fun b ob q => Heap.get?_push_of_some _ q
  obtain ⟨its, r, ht, hz⟩ := I5.tuple hx
  have hlen := r.length
  cases pl
  cases pu
  obtain ⟨tk, rfl⟩ : ∃ tk, vs = .int (-1) tk := by cases ps; exact ⟨_, rfl⟩
  show wpAny (model X.prog X.w) X.A (subscriptTail e (.Slice none none (some (.UnaryOp .USub (.Constant (.int 1) k p1) p2)) p3) (.ref a) (.ref s4.heap.objs.size)) (EP X pins σ Q) X.xe { s4 with heap := s4.heap.push { cls := .type "slice", data := .fields #[.none, .none, .int (-1) tk] } }
  refine tail_any (ops := [.ref a, .ref s4.heap.objs.size]) ht.typeIs (PyProof.Rows.slot_tuple_getitem.lookup) ?_ (by with_unfolding_all rfl)
  refine getItem_tuple_rev ht (Heap.IsSliceOf.new _ .none .none (.int (-1) tk)) ?_ (by rw [List.size_toArray]; omega)
  have e5 : (its.toArray.toList.reverse).toArray = its.reverse.toArray := by simp
  exact laidN I5 (by rw [List.length_reverse]; exact hz) r.reverse q
def gRev : Dat → (Dat → Prop) → Prop
  | .tup ds, P => P (.tup ds.reverse)
  | _, _ => False
theorem de_rev {e : Expr} {f : GDE S} {k : Nat} {p1 p2 p3 pos : Pos} (he : PE X e (LE X.K TT E f)) : PE X (.Subscript e (.Slice none none (some (.UnaryOp .USub (.Constant (.int 1) k p1) p2)) p3) pos) (LE X.K TT E (dUn gRev f)) := (pe_revT he).imp fun σ H Q hz7 => ex8 hz7 fun ρ n P R r q k x => ⟨ρ, n, _, R, r, q, fun d m v H1 z e s => by
  unfold gRev at z
  split at z
  · obtain ⟨a, xs, rfl, h1, l1, s1⟩ := s.tup_iff
    exact ⟨a, xs, rfl, h1, fun p o hp ho => k _ m _ _ z (e.trans (.grow (.new hp))) (.newT hp ho (by rw [List.length_reverse]; exact l1) s1.reverse)⟩
  · exact z.elim, x⟩
theorem de_dict0 {pos : Pos} : PE X (.Dict [] [] pos) (LE (S := S) X.K TT E (dC (.dct [] []))) := pe_dnewK.imp fun σ H Q ⟨ρ, n, P, R, r, q, k, x⟩ p hp => k _ n _ _ q (.grow (.new hp)) (.dct (xs := []) (.inl upd_same) rfl .nil)
theorem de_dict1 {key : Str} {j : Nat} {p1 pos : Pos} {e : Expr} {d : Dat} (he : PE X e (tC (vOf d))) (fd : flatK d = true) (hs : ∀ (n : S) H, Sees X.K n H (vOf d) d) : PE X (.Dict [some (.Constant (.str key) j p1)] [e] pos) (LE (S := S) X.K TT E (dC (.dct [.inr key] [d]))) := (pe_disp (pps_cons pe_str he pps_nil) rfl rfl (by simp) (by simp)).imp fun σ H Q hq80 p hp => by
  obtain ⟨ρ, n, P, R, r, q, k, x⟩ := hq80
  refine ⟨upd_same, [(.inr key, vOf d)], rfl, by simp, ?_⟩
  rw [upd_upd]
  exact k _ n _ _ q (.grow (.new hp)) (.dct (ks := [.inr key]) (xs := [vOf d]) (.inl upd_same) rfl (.cons (hs n _) .nil))
end
end Aim
namespace Aim
open PySem PySem.Spec PyProof.Rows L2
open LamX (TabB Tabs CodeO)
open Stt (cnt sto)
variable {S : Type} [Stt S]
structure Src (P : Program) (w : World) (K : PySem.W.Frag) (a : Addr) (T : String) (sq : Hp → List V → Prop) (iter : Heap → Addr → Nat → Prop) (is : Heap → Array Value → Prop) : Prop where
  get : ∀ {X : Cx} {pins : List (Addr × Obj)} {σ : L2.St} {H : Hp} {s : Shared} {xs : List V}, X.prog = P → X.w = w → X.K = K → Inv X pins σ H s → sq H xs → ∃ its : List Value, Vals xs its ∧ is s.heap its.toArray ∧ xs.length ≤ sizeLine
  inj : ∀ {h : Heap} {xs ys : Array Value}, is h xs → is h ys → xs = ys
  cls : ∀ {h : Heap} {xs : Array Value}, is h xs → ∃ o, h.get? a = some o ∧ o.cls = .type T
  draws : ∀ {A : Around} (it : Addr) (xs : Array Value), A.handled = none → a ≠ it → Draws P w A it [it, a] xs.size (fun i v => xs[i]? = some v) (fun i h => iter h it i ∧ is h xs)
  fin : ∀ {A : Around} {s : Shared} {it : Addr} {i : Nat} {xs : Array Value} {Q E : Value → Shared → Prop}, A.handled = none → iter s.heap it i → is s.heap xs → xs.size ≤ i → (∀ h' e, Heap.ExtBut it s.heap h' → (∃ o, h'.get? e = some o ∧ o.cls = .type "StopIteration") → E (.ref e) { s with heap := h' }) → wpAny (model P w) A (Builtin.SmallTypes.nextOf (.ref it)) Q E s
  obj : ∀ {h : Heap} {it : Addr} {i : Nat}, iter h it i → ∃ o vs, h.get? it = some o ∧ o.cls ≠ .type T ∧ o.data = .fields vs
  keep : ∀ {h h' : Heap} {it : Addr} {i : Nat}, iter h it i → (∀ o, h.get? it = some o → h'.get? it = some o) → iter h' it i
def IteC (sq : Hp → List V → Prop) (k : Int) : It :=
  ⟨fun i H => ∃ (xs : List V) (x : V), sq H xs ∧ xs[i]? = some x, fun i H v H' => ∃ (T : Addr) (o : Obj) (x : V), v = .ref T ∧ H T = none ∧ o.dict = none ∧ H' = upd H T (.frz o (.tup [.int (k + (i : Nat)), x])) ∧ ∀ xs, sq H xs → xs[i]? = some x, fun i H => ∃ xs : List V, sq H xs ∧ xs.length ≤ i⟩
section
variable {P : Program} {w : World} {K : PySem.W.Frag} {a : Addr} {T : String} {sq : Hp → List V → Prop} {iter : Heap → Addr → Nat → Prop} {is : Heap → Array Value → Prop}
theorem turn_enumC (S : Src P w K a T sq iter is) (hT : T ≠ "enumerate") (k : Int) {elts : List Expr} {kk : Nat} {tpos : Pos} (e it : Addr) :
    Turn P w K (.Tuple elts kk tpos) (IteC sq k) [e, it] e (fun i h => (∃ old, IsEnum h e it (k + (i : Nat)) old) ∧ iter h it i ∧ e ≠ it) where
  mem := by simp
  obj := fun i h st b hb => by
    obtain ⟨⟨old, he⟩, hi, _⟩ := st
    obtain ⟨o, vs, ho, _, hd⟩ := S.obj hi
    have e' : b = e ∨ b = it := by simpa using hb
    rcases e' with z | z
    · rw [z]; exact ⟨_, he, fun v q => nomatch q⟩
    · rw [z]; exact ⟨o, ho, fun v q => by rw [hd] at q; cases q⟩
  keep := fun i h h' st q => by
    obtain ⟨⟨old, he⟩, hi, hne⟩ := st
    exact ⟨⟨old, q e (by simp) _ he⟩, S.keep hi fun o z => q it (by simp) o z, hne⟩
  item := by
    intro X hP hw hK hc i pins s σ H E I hf st hg
    subst hP hw hK
    obtain ⟨⟨old, he⟩, hit, hne⟩ := st
    obtain ⟨xs, x, hq, hx⟩ := hg
    obtain ⟨its, rv, p, hz⟩ := S.get rfl rfl rfl I hq
    obtain ⟨u, hu, ru⟩ := rv.get hx
    have hel : e < s.heap.objs.size := Heap.lt_size he
    obtain ⟨oi, vi, hoi, hci, _⟩ := S.obj hit
    have hil : it < s.heap.objs.size := Heap.lt_size hoi
    obtain ⟨oa, hoa, hca⟩ := S.cls p
    have ai : a ≠ it := fun z => by rw [z, hoi] at hoa; cases hoa; exact hci hca
    have ae : a ≠ e := fun z => by rw [z, he] at hoa; cases hoa; exact hT (Value.type.inj hca).symm
    have D := S.draws (A := X.A.in1) it its.toArray (I.ok.hd hc) ai
    have hlt : i < its.toArray.size := by
      rw [List.size_toArray]
      exact (List.getElem?_eq_some_iff.mp hu).1
    refine wpAny_pyNext_enum_itemC D he ⟨hit, p⟩ hlt hne (by simp [hne, Ne.symm ae]) fun y h' tk hy ho st' hT' hsz hk => ?_
    have hy2 : y = u := by
      rw [List.getElem?_toArray, hu] at hy
      exact (Option.some.inj hy).symm
    subst hy2
    refine ⟨_, rfl, wpAny_letOwnedTupleGo_enum (s := { s with heap := h', toks := tk + 1 }) ho fun h'' he' sb => ?_⟩
    have hT2 := (sb.2 _ (Nat.ne_of_gt hel)).trans hT'
    have new : ObjOk X.prog X.w (upd H s.heap.objs.size (.frz { cls := .type "tuple", data := .seq #[.int (k + (i : Nat)) tk, y] } (.tup [.int (k + (i : Nat)), x]))) h'' s.heap.objs.size (.frz { cls := .type "tuple", data := .seq #[.int (k + (i : Nat)) tk, y] } (.tup [.int (k + (i : Nat)), x])) :=
      ⟨hT2, by show 2 ≤ sizeLine; decide, [.int (k + (i : Nat)) tk, y], .cons ⟨_, rfl⟩ (.cons ru .nil), ⟨_, hT2, rfl, _, rfl⟩⟩
    have I1 : Inv X pins σ (upd H s.heap.objs.size (.frz { cls := .type "tuple", data := .seq #[.int (k + (i : Nat)) tk, y] } (.tup [.int (k + (i : Nat)), x]))) { s with heap := h'', toks := tk + 1 } :=
      I.turnedNew (ch := [e, it]) (fun b ob hb q => (sb.2 b (fun z => hb (by simp [z]))).trans (hk b ob (fun z => hb (by simp [z])) (fun z => hb (by simp [z])) q)) hf (Nat.le_refl _) new
    refine ⟨.ref s.heap.objs.size, _, I1, rfl, ⟨_, _, x, rfl, I.hok.fresh (Nat.le_refl _), rfl, rfl, fun ys hys => ?_⟩, ⟨⟨y, ?_⟩, S.keep st'.1 fun o q => (sb.2 it (Ne.symm hne)).trans q, hne⟩, fun b hb => ?_⟩
    · obtain ⟨its2, rv2, p2, _⟩ := S.get rfl rfl rfl I hys
      have := S.inj p2 p
      have e3 : its2 = its := by simpa using congrArg Array.toList this
      rw [e3] at rv2
      rw [rv2.inj rv]
      exact hx
    · have e1 : k + ((i + 1 : Nat) : Int) = k + (i : Nat) + 1 := by push_cast; omega
      rw [e1]
      exact he'
    · have e' : b = e ∨ b = it := by simpa using hb
      have hb' : b < s.heap.objs.size := by
        rcases e' with z | z
        · rw [z]; exact hel
        · rw [z]; exact hil
      rw [upd_ne (Nat.ne_of_lt hb')]
      exact (hf b hb).1
  done := by
    intro X hP hw hK hc i pins s σ H E I hf st hg
    subst hP hw hK
    obtain ⟨⟨old, he⟩, hit, hne⟩ := st
    obtain ⟨xs, hq, hx⟩ := hg
    obtain ⟨its, rv, p, hz⟩ := S.get rfl rfl rfl I hq
    obtain ⟨f0, f1, f2, f3, f4, f5⟩ := hf it (by simp)
    have hl := rv.length
    obtain ⟨oi, vi, hoi, hci, _⟩ := S.obj hit
    obtain ⟨oa, hoa, hca⟩ := S.cls p
    have ai : a ≠ it := fun z => by rw [z, hoi] at hoa; cases hoa; exact hci hca
    have D0 := S.draws (A := X.A.in1) it its.toArray (I.ok.hd hc) ai
    have D : Draws X.prog X.w X.A.in1 it [it, a] i (fun _ _ => True) (fun j h => j = i ∧ iter h it i ∧ is h its.toArray) :=
      ⟨fun j h z => let ⟨o, _, q, _⟩ := S.obj z.2.1; ⟨o, q⟩, fun j h h' z q => ⟨z.1, D0.frame i h h' z.2 q⟩, fun j s' Q E lt z => absurd z.1 (Nat.ne_of_lt lt), fun s' Q E z hE => S.fin (I.ok.hd hc) z.2.1 z.2.2 (by simp only [List.size_toArray]; omega) hE⟩
    exact wpAny_pyNext_enum_endD D he ⟨rfl, hit, p⟩ fun h' eb => ⟨rfl, I.turned (t' := s.toks) (fun b o hb q => eb b o hb q) f0 f1 f3 f4 f5⟩
  self := fun A i s Q E st h => by
    obtain ⟨⟨_, he⟩, _⟩ := st
    exact wpAny_pyIter_enum he h
end
theorem src_list {P : Program} {w : World} {K : PySem.W.Frag} (a : Addr) : Src P w K a "list" (fun H xs => SqL K H a xs) (fun h it i => h.IsListIter it a i) (fun h xs => h.IsList a xs) where
  get := fun hP hw hK I hq => by
    subst hP hw hK
    obtain ⟨its, rv, p, z⟩ := I.list hq
    exact ⟨its, rv, p.isList, z⟩
  inj := fun h h' => by
    obtain ⟨o, e, _, n, d⟩ := h
    obtain ⟨o', e', _, n', d'⟩ := h'
    rw [e] at e'; cases e'
    rw [d] at d'
    injection d'
  cls := fun h => let ⟨o, e, c, _⟩ := h; ⟨o, e, c⟩
  draws := fun it xs hh hne => Draws.list hh it a hne xs
  fin := fun hh hit p hx hE => wpAny_nextOf_list_end hh hit p (by simp [hx]) hE
  obj := fun ⟨o, ho, hc, hd⟩ => ⟨o, _, ho, by rw [hc]; decide, hd⟩
  keep := fun h q => h.at q
theorem src_tup {P : Program} {w : World} {K : PySem.W.Frag} (a : Addr) : Src P w K a "tuple" (fun H xs => SqT K H a xs) (fun h it i => h.IsTupleIter it a i) (fun h xs => h.IsTuple a xs) where
  get := fun hP hw hK I hq => by
    subst hP hw hK
    obtain ⟨its, rv, p, z⟩ := I.tuple hq
    exact ⟨its, rv, p, z⟩
  inj := fun h h' => by
    obtain ⟨o, e, _, n, d⟩ := h
    obtain ⟨o', e', _, n', d'⟩ := h'
    rw [e] at e'; cases e'
    rw [d] at d'
    injection d'
  cls := fun h => let ⟨o, e, c, _⟩ := h; ⟨o, e, c⟩
  draws := fun it xs hh hne => Draws.tuple hh it a hne xs
  fin := fun hh hit p hx hE => wpAny_nextOf_tuple_end hh hit p (by simp [hx]) hE
  obj := fun ⟨o, ho, hc, hd⟩ => ⟨o, _, ho, by rw [hc]; decide, hd⟩
  keep := fun h q => h.at q
set_option maxHeartbeats 1000000 in
theorem meets_enumerate_new1 {v : Value} {o : Obj} {H : Heap → Prop} (B : Begins v o H) :
    Meets (Builtin.«enumerate.__new__» ⟨[.type "enumerate", v], []⟩) (fun _ R s => H s.heap ∧
      R (.ok (.ret (.ref (s.heap.push o).objs.size))) { s with heap := (s.heap.push o).push { cls := .type "enumerate", data := .fields #[.none, .bool false, .ref s.heap.objs.size, rawInt 0, .none, .none] } }) :=
  .of_wp fun prog w A R s h => by
    obtain ⟨hp, g, d, tk, os⟩ := s; obtain ⟨h1, h⟩ := h
    have hsub := sub_enumerate
    have q1 : ∀ {A' : Around} {E : Value → Shared → Prop} {Q : Value → Shared → Prop}, Q (.ref hp.objs.size) ⟨hp.push o, g, d, tk, os⟩ → wpAny (model prog w) A' (pyIter v) Q E ⟨hp, g, d, tk, os⟩ :=
      fun q => B.iter prog w _ _ ⟨hp, g, d, tk, os⟩ _ h1 q
    wp_walk using q1
    refine wpAny_stack_any fun st => wpAny_pure ?_
    split
    · rename_i c _ _ _ _ _
      cases (c == Value.type "enumerate")
      · wp_walk using q1
        exact ⟨_, rfl, h⟩
      · wp_walk using q1
        exact ⟨_, rfl, h⟩
    · wp_walk using q1
      exact ⟨_, rfl, h⟩
section
variable {prog : Program} {w : World} {A : Around} {E : Value → Shared → Prop} {s : Shared}
theorem enum_begins1 {v : Value} {o : Obj} {H : Heap → Prop} {Q : Value → Shared → Prop} (B : Begins v o H) (h1 : H s.heap)
    (h : ∀ h', IsEnum h' (s.heap.objs.size + 1) s.heap.objs.size 0 .none → h'.get? s.heap.objs.size = some o → h'.objs.size = s.heap.objs.size + 2 →
      (∀ b o, s.heap.get? b = some o → h'.get? b = some o) → Q (.ref (s.heap.objs.size + 1)) { s with heap := h' }) :
    wpAny (model prog w) A (call (.type "enumerate") [v]) Q E s := by
  refine callType_new F.called_enumerate (by decide) (F.typeCall_enumerate_1 _) (F.newCall_enumerate_1 _) (fun obj => F.args_object_init_2 obj _) F.entry_enumerate_new
    (meets_enumerate_new1 B) ⟨h1, ?_⟩
  have hz : (s.heap.push o).objs.size = s.heap.objs.size + 1 := Heap.size_push ..
  show _ ∧ _
  rw [hz]
  have he : IsEnum ((s.heap.push o).push { cls := .type "enumerate", data := .fields #[.none, .bool false, .ref s.heap.objs.size, rawInt 0, .none, .none] }) (s.heap.objs.size + 1) s.heap.objs.size 0 .none := by
    have := Heap.get?_push_size (s.heap.push o) (o := { cls := .type "enumerate", data := .fields #[.none, .bool false, .ref s.heap.objs.size, rawInt 0, .none, .none] }) rfl
    rw [hz] at this; exact this
  refine ⟨⟨_, he, rfl⟩, h _ he (Heap.get?_push_of_some _ (Heap.get?_push_size _ B.free)) (by rw [Heap.size_push, hz]) fun b o x => Heap.get?_push_of_some _ (Heap.get?_push_of_some _ x)⟩
end
def enK : List V → (Addr → Int → Prop) → Prop
  | [.ref a], P => P a 0
  | [.ref a, .int j], P => P a j ∧ -(2 ^ 63) ≤ j ∧ j < 2 ^ 63
  | _, _ => False
def iEnumK (K : PySem.W.Frag) (ta : TA) : TI := fun σ H R => ta σ H fun vs H1 => enK vs fun a j => (∃ xs, SqL K H1 a xs ∧ R (IteC (fun H => SqL K H a) j) H1) ∨ ∃ xs, SqT K H1 a xs ∧ R (IteC (fun H => SqT K H a) j) H1
theorem enumK_end {X : Cx} {tg : Expr} {elts : List Expr} {kk : Nat} {tpos : Pos} {pins : List (Addr × Obj)} {σ : L2.St} {H1 : Hp} {s1 : Shared} {h' : Heap} {R : It → Hp → Prop} {E : Value → Shared → Prop} {a : Addr} {T : String} {sq : Hp → List V → Prop} {iter : Heap → Addr → Nat → Prop} {is : Heap → Array Value → Prop}
    (S : Src X.prog X.w X.K a T sq iter is) (hT : T ≠ "enumerate") (j : Int) (I1 : Inv X pins σ H1 s1) (he : IsEnum h' (s1.heap.objs.size + 1) s1.heap.objs.size j .none) (hit : iter h' s1.heap.objs.size 0) (hk : ∀ b o, s1.heap.get? b = some o → h'.get? b = some o) (q : R (IteC sq j) H1) :
    wpAny (model X.prog X.w) X.A (pyIter (.ref (s1.heap.objs.size + 1))) (PIE X pins σ (.Tuple elts kk tpos) R) E { s1 with heap := h' } := by
  refine wpAny_pyIter_enum he ?_
  have I2 : Inv X pins σ H1 { s1 with heap := h' } := I1.kept (t' := s1.toks) hk
  refine ⟨s1.heap.objs.size + 1, [s1.heap.objs.size + 1, s1.heap.objs.size], _, _, H1, rfl, I2, turn_enumC S hT j (s1.heap.objs.size + 1) s1.heap.objs.size, ⟨⟨.none, by simpa using he⟩, hit, Nat.succ_ne_self _⟩, fun b hb => ?_, q⟩
  have e' : b = s1.heap.objs.size + 1 ∨ b = s1.heap.objs.size := by simpa using hb
  have hle : s1.heap.objs.size ≤ b := by
    rcases e' with z | z
    · rw [z]; exact Nat.le_add_right _ _
    · rw [z]; exact Nat.le_refl _
  exact I1.fpOk hle (I1.hok.fresh hle)
theorem pi_enumK {X : Cx} {e : Expr} {es : List Expr} {ta : TA} {p pos tpos : Pos} {elts : List Expr} {kk : Nat} (hg : Gl X "enumerate") (hm : X.mg "enumerate" = none) (ha : PA X (e :: es) ta) (hs : starEach (e :: es) X.env = (false, eval e X.env) :: starEach es X.env := by rfl) (hp : (backTo pos (starEach es X.env)).any (·.1) = false := by rfl) :
    PI X (.Tuple elts kk tpos) (.Call (.Name "enumerate" p) (e :: es) [] pos) (iEnumK X.K ta) := by
  refine ⟨fun pins s σ H R I h => ?_⟩
  refine Call_ (ld_blt I hg hm boot_enumerate (PyProof.Rows.callWith_type1 (thn (ha.run pos pins s σ H _ I h) fun us s1 hq90 => ?_) hs hp))
  obtain ⟨vs, H1, I1, r1, q1⟩ := hq90
  replace q1 : enK vs _ := q1
  unfold enK at q1
  split at q1
  · rename_i a
    cases r1 with
    | cons r rr =>
      cases rr
      cases r
      rcases q1 with ⟨xs, hq, q⟩ | ⟨xs, hq, q⟩
      · obtain ⟨its, rv, p', hz⟩ := I1.list hq
        exact enum_begins1 (begins_list a its.toArray) p'.isList fun h' he hit hsz hk => enumK_end (tg := e) (src_list a) (by decide) 0 I1 he ⟨_, hit, rfl, rfl⟩ hk q
      · obtain ⟨its, rv, p', hz⟩ := I1.tuple hq
        exact enum_begins1 (begins_tuple a its.toArray) p' fun h' he hit hsz hk => enumK_end (tg := e) (src_tup a) (by decide) 0 I1 he ⟨_, hit, rfl, rfl⟩ hk q
  · rename_i a j
    cases r1 with
    | cons r rr =>
      cases rr with
      | cons r2 rr =>
        cases rr
        cases r
        obtain ⟨t, rfl⟩ := r2
        obtain ⟨q1, b0, b1⟩ := q1
        rcases q1 with ⟨xs, hq, q⟩ | ⟨xs, hq, q⟩
        · obtain ⟨its, rv, p', hz⟩ := I1.list hq
          exact enum_begins (begins_list a its.toArray) p'.isList b0 b1 fun h' he hit hsz hk => enumK_end (tg := e) (src_list a) (by decide) j I1 he ⟨_, hit, rfl, rfl⟩ hk q
        · obtain ⟨its, rv, p', hz⟩ := I1.tuple hq
          exact enum_begins (begins_tuple a its.toArray) p' b0 b1 fun h' he hit hsz hk => enumK_end (tg := e) (src_tup a) (by decide) j I1 he ⟨_, hit, rfl, rfl⟩ hk q
  · exact q1.elim
section
variable {X : Cx} {TT : List (Addr × Str)} {E : XK} {K : PySem.W.Frag}
def enD : List Dat → (List Dat → Prop) → Prop
  | [.lst xs], P => P (pairs (numL 0 xs.length) xs)
  | [.tup xs], P => P (pairs (numL 0 xs.length) xs)
  | [.lst xs, .int j], P => P (pairs (numL j xs.length) xs) ∧ -(2 ^ 63) ≤ j ∧ j < 2 ^ 63
  | [.tup xs, .int j], P => P (pairs (numL j xs.length) xs) ∧ -(2 ^ 63) ≤ j ∧ j < 2 ^ 63
  | _, _ => False
def diEnumK (f : GDA S) : GDI S := fun ρ n P R => f ρ n (fun ds m => enD ds fun xs => P xs m) R
theorem items_enumC {sq : Hp → List V → Prop} {j : Int} {xs : List V} {ds : List Dat} {m : S} {H : Hp} (h1 : ∀ {n' H'}, Fra K TT m H n' H' → sq H' xs) (s1 : SeesL K m H xs ds) (l : xs.length ≤ sizeLine) : Items K TT (IteC sq j) m H (pairs (numL j ds.length) ds) := by
  have hn : (pairs (numL j ds.length) ds).length = xs.length := by rw [pairs_len, numL_len, s1.length]; omega
  refine ⟨by rw [hn]; exact l, fun i n' H' hi g => ?_, fun n' H' g => ⟨xs, h1 g, by rw [hn]; exact Nat.le_refl _⟩, fun i n' H' x H2 d hd g y => ?_⟩
  · rw [hn] at hi
    exact ⟨xs, xs[i], h1 g, by simp [hi]⟩
  obtain ⟨hi, _⟩ := List.getElem?_eq_some_iff.mp hd
  obtain ⟨T, o, x', e1, e2, e6, e3, e5⟩ := y
  have e5 := e5 xs (h1 g)
  obtain ⟨d1, d2, f1, f2, rfl⟩ := pairs_get hd
  obtain ⟨d2', g2, t2⟩ := s1.get e5
  rw [f2] at g2
  cases g2
  rw [numL_get _ _ _ (by rw [s1.length] at hn; omega)] at f1
  cases f1
  refine ⟨by rw [e3]; exact .new e2, fun G gG q => pair_sees e2 e1 e6 e3 q (.int _) (t2.mono gG)⟩
theorem di_enumK {tg e : Expr} {fr : GDA S} (h : PI X tg e (iEnumK X.K (LA X.K TT E fr))) : PI X tg e (LI X.K TT E (diEnumK fr)) := h.imp fun σ H R hz7 => ex8 hz7 fun ρ n P Rx r f k x => ⟨ρ, n, _, Rx, r, f, fun ds m vs H1 q e s => by
  unfold enD at q
  split at q
  · cases s with
    | cons s1 s =>
      cases s
      obtain ⟨p1, xs, rfl, a1, a2, a3⟩ := s1.lst_iff
      exact .inl ⟨xs, a1, k _ m _ H1 q e (items_enumC (fun g => g.sqL a1) a3 a2)⟩
  · cases s with
    | cons s1 s =>
      cases s
      obtain ⟨p1, xs, rfl, a1, a2, a3⟩ := s1.tup_iff
      exact .inr ⟨xs, a1, k _ m _ H1 q e (items_enumC (fun g => g.sqT a1) a3 a2)⟩
  · cases s with
    | cons s1 s =>
      cases s with
      | cons s2 s =>
        cases s
        cases s2
        obtain ⟨p1, xs, rfl, a1, a2, a3⟩ := s1.lst_iff
        exact ⟨.inl ⟨xs, a1, k _ m _ H1 q.1 e (items_enumC (fun g => g.sqL a1) a3 a2)⟩, q.2⟩
  · cases s with
    | cons s1 s =>
      cases s with
      | cons s2 s =>
        cases s
        cases s2
        obtain ⟨p1, xs, rfl, a1, a2, a3⟩ := s1.tup_iff
        exact ⟨.inr ⟨xs, a1, k _ m _ H1 q.1 e (items_enumC (fun g => g.sqT a1) a3 a2)⟩, q.2⟩
  · exact q.elim, x⟩
def signs (x : Str) : List Dat := x.cps.toList.map fun c => .str ⟨#[c]⟩
def strOf : Dat → (List Dat → Prop) → Prop
  | .str x, P => P (signs x)
  | _, _ => False
def diStr (f : GDE S) : GDI S := fun ρ n P R => f ρ n (fun d m => strOf d fun ds => P ds m) R
theorem di_str {tg a : Expr} {fa : GDE S} (h : PE X a (LE X.K TT E fa)) : PI X tg a (LI X.K TT E (diStr fa)) := (pi_str h).imp fun σ H R hz7 => ex8 hz7 fun ρ n P Rx r f k x => ⟨ρ, n, _, Rx, r, f, fun d m v H1 q e s => by
  unfold strOf at q
  split at q
  · rename_i z
    cases s with
    | str _ b =>
      have hl : (signs z).length = z.cps.size := by simp [signs]
      refine ⟨z, rfl, k _ m _ H1 q e ⟨by rw [hl]; exact b.1, fun i n' H' hi g => by rw [hl] at hi; exact hi, fun n' H' g => by rw [hl]; exact Nat.le_refl _, fun i n' H' y H2 d hd g w => ?_⟩⟩
      obtain ⟨e1, c, e2, rfl⟩ := w
      subst e1
      refine ⟨.refl _, fun G gG _ => ?_⟩
      have e3 : (signs z)[i]? = some (.str ⟨#[c]⟩) := by
        unfold signs
        rw [List.getElem?_map, Array.getElem?_toList, e2]
        rfl
      rw [hd] at e3
      cases e3
      obtain ⟨h1, h2⟩ := Array.getElem?_eq_some_iff.mp e2
      have h3 := Array.all_eq_true.mp b.2 i h1
      rw [h2] at h3
      exact .str _ ⟨by show 1 ≤ sizeLine; decide, by simpa using h3⟩
  · exact q.elim, x⟩
end
end Aim
namespace Aim
open PySem PySem.Spec PyProof.Rows L2
end Aim
namespace Aim
open PySem PySem.Spec PyProof.Rows L2
open LamX (TabB Tabs CodeO)
open Stt (cnt sto)
variable {S : Type} [Stt S]
structure DfW (P : Program) (w : World) (K : PySem.W.Frag) (mg : Str → Option Value) (base : Heap) (G : Bool) (k : Nat) (x : Str) (st : Stmt) (ps : List Str) (sp : Sp) : Prop where
  ex : ∃ (f : Addr) (fd : FuncData), L2.Fun K x x st f fd ∧ Rn P w K mg base G k f fd ps sp ∧ mg x = some (.ref f) ∧ L2.Binds K fd ps []
section
variable {P : Program} {w : World} {K : PySem.W.Frag} {mg : Str → Option Value} {base : Heap} {TT : List (Addr × Str)} {G : Bool} {k : Nat} {x : Str} {st : Stmt} {N ps : List Str} {sp : GDSp S}
theorem DfW.df {sp : Sp} (d : DfW P w K mg base G k x st ps sp) : Df P w K mg base G k x sp := by
  obtain ⟨f, fd, F, R, hm, hb⟩ := d.ex
  exact ⟨f, fd, ps, R, hm, F.kp, hb⟩
theorem dat_okW (F : Has K mg x st) (hb : ∀ f fd, L2.Fun K x x st f fd → L2.Binds K fd ps []) (S : FnScope N ps (defScope st))
    (body : ∀ (f : Addr) (cdv : Value) (A : Around) (outer : List Env) (s : Shared) (H : Hp) (E : XK), Room k (A.deeper (envOfC x (defScope st) s.heap.objs.size f cdv)) → (G = true → A.guards = some []) →
      ∃ g, PSs (cxOf (L2.CX P w) P w K mg base N x (defScope st) f cdv A outer s H E) (defBody st) (LS K TT E g) ∧ ∀ ds n PP R, sp ds n PP R → ds.length = ps.length ∧ g { nx := fun _ m => PP .non m, rt := PP, ex := R } (dstart N ds) n)
    (hl : ∀ ds n PP R, sp ds n PP R → ds.length = ps.length) : DfW P w K mg base G (k + 1) x st ps (LSp K TT sp) := by
  obtain ⟨f, fd, F, hm⟩ := F.ex
  have hbb := hb f fd F
  obtain ⟨oc, od, kV, doc, pm, an, cdv, ct, osl, e, lk, hcd⟩ := id F.ex
  have len : ∀ vs H Q E, LSp K TT sp vs H Q E → vs.length = ps.length := fun vs H Q E h => by
    obtain ⟨ds, n, PP, R, s, h, _⟩ := h
    rw [s.length]
    exact hl _ _ _ _ h
  refine ⟨f, fd, F, ⟨len, ?_⟩, hm, hbb⟩
  subst e
  exact fun {A fr s H args us vs Q E} hr hg e0 b r q => LamX.run_ofS lk hcd S hr e0 b r (len _ _ _ _ q) fun hr' => by
    obtain ⟨g, hp, z⟩ := body f cdv A fr s H E hr' hg
    obtain ⟨ds, n, PP, R, se, h, kQ, kE, kS⟩ := q
    exact ⟨_, hp, ends_of se (z ds n PP R h).2 kQ kE kS⟩
end
section
variable {X : Cx} {TT : List (Addr × Str)} {E : XK} {k j : Nat} {G : Bool} {x : Str} {sp : GDSp S} {kws : List Keyword} {fr : GDA S} {p pos kpos : Pos} {ks : List Str} {f : GDE S} {e : Expr} {nm : Option Str}
theorem _root_.L2.PK.imp {e : List Keyword} {t t' : TA} (h : PK X e t) (i : ∀ σ H Q, t' σ H Q → t σ H Q) : PK X e t' := ⟨fun p pins s σ H Q I q => h.run p pins s σ H Q I (i _ _ _ q)⟩
end
end Aim
namespace Aim
open PySem PySem.Spec PyProof.Rows L2
open LamX (TabB Tabs CodeO)
open Stt (cnt sto)
variable {S : Type} [Stt S]
def spLaw : DSp := fun ds n Q _ => ∃ ns : List Int, ds = [.scr ns] ∧ ns.length ≤ 63 ∧ (∀ z ∈ ns, Builtin.Int.intBits z ≤ 1048576) ∧ n = 0 ∧ ∀ m, Q (.bl true) m
theorem fun_uniq {K : PySem.W.Frag} {x q : Str} {st : Stmt} {f : Addr} {fd fd' : FuncData} (F : L2.Fun K x q st f fd) (F' : L2.Fun K x q st f fd') : fd = fd' := by
  obtain ⟨oc, od, kV, doc, pm, an, cdv, ct, osl, e, lk, hcd⟩ := F.ex
  obtain ⟨oc', od', kV', doc', pm', an', cdv', ct', osl', e', lk', hcd'⟩ := F'.ex
  rw [lk] at lk'
  subst e
  subst e'
  have z := Option.some.inj lk'
  have z := congrArg Obj.data z
  injection z
section
variable {P : Program} {w : World} {K : PySem.W.Frag} {mg : Str → Option Value} {h : Heap} {TT : List (Addr × Str)}
theorem lam_tab {q : Program} {x : Str} {d : DefRec} {f c Pt : Addr} {st : Stmt} {oc kV doc pm ct cc : Value} {od an cdd : Option Addr} {osl cs : Array (Option Value)} {vs : Array Value}
    (tabs : ∀ (x : Str) (d : DefRec) (c P : Addr), (recsOf q).find? (fun e => e.name == x) = some d → PySem.W.tabIn K x = some (c, P) → PySem.W.CodeHd h c P ∧ h.get? P = some tab0)
    (r : (recsOf q).find? (fun e => e.name == x) = some d) (a : PySem.W.nsIn K mainGlobals x = some (some (.ref f))) (lR : K.lookup f = some ⟨oc, od, .func (PySem.W.fnOf x x (defArgs st) (defBody st) (defScope st) .none kV doc pm an (.ref c) ct), osl⟩)
    (lc : K.lookup c = some ⟨cc, cdd, .fields vs, cs⟩) (e11 : (vs[11]? : Option Value) = some (.ref Pt)) (nP : K.lookup Pt = none) : h.get? Pt = some tab0 ∧ K.lookup Pt = none ∧ PySem.W.CodeHd h c Pt := by
  have tb : PySem.W.tabIn K x = some (c, Pt) := by
    unfold PySem.W.tabIn
    rw [a]
    dsimp only
    rw [lR]
    dsimp only [PySem.W.fnOf]
    rw [lc]
    dsimp only
    rw [e11]
  obtain ⟨h1, h2⟩ := tabs _ _ _ _ r tb
  exact ⟨h2, nP, h1⟩
theorem hu_at {P : Addr} {q : Str} (nd : (TT.map Prod.fst).Nodup) (h : (P, q) ∈ TT) : ∀ p ∈ TT, p.1 = P → p.2 = q := by
  induction TT with
  | nil => cases h
  | cons t r ih =>
    rw [List.map_cons, List.nodup_cons] at nd
    intro p hp e
    rcases List.mem_cons.mp h with z | z
    · subst z
      rcases List.mem_cons.mp hp with y | y
      · rw [y]
      · exact absurd (by have := List.mem_map_of_mem (f := Prod.fst) y; rw [e] at this; exact this) nd.1
    · rcases List.mem_cons.mp hp with y | y
      · subst y
        exact absurd (by have := List.mem_map_of_mem (f := Prod.fst) z; rw [e]; exact this) nd.1
      · exact ih nd.2 z p y e
theorem gc_int (X : K.In h) (G : h.Ns mainGlobals mg) {x : Str} {i : Int} {t : Tok} (a : PySem.W.nsIn K mainGlobals x = some (some (.int i t))) : GC K mg x (.int i) := ⟨.int i, _, PySem.W.mg_of X G a, ⟨_, rfl⟩, fun _ _ => .int i⟩
theorem gc_str (X : K.In h) (G : h.Ns mainGlobals mg) {x y : Str} {t : Tok} (a : PySem.W.nsIn K mainGlobals x = some (some (.str y t))) (b : StrB y) : GC K mg x (.str y) := ⟨.str y, _, PySem.W.mg_of X G a, ⟨_, rfl⟩, fun _ _ => .str y b⟩
theorem gc_strs (X : K.In h) (G : h.Ns mainGlobals mg) {x : Str} {ad : Addr} {n : Nat} {sl : Array (Option Value)} {ys : List Str} {its : Array Value} (a : PySem.W.nsIn K mainGlobals x = some (some (.ref ad)))
    (l : K.lookup ad = some ⟨.type "tuple", none, .seq its n, sl⟩) (hv : Vals (ys.map V.str) its.toList) (hl : ys.length ≤ 1000) (b : ∀ y ∈ ys, StrB y) : GC K mg x (.tup (ys.map Dat.str)) := by
  refine ⟨.ref ad, _, PySem.W.mg_of X G a, rfl, fun m H => ?_⟩
  have e := hv.length
  simp only [List.length_map, Array.length_toList] at e
  have sz : sizeLine = 16777216 := by decide +kernel
  exact .tup (.inr ⟨_, its, n, l, rfl, rfl, rfl, by omega, hv⟩) (by rw [List.length_map]; omega) (.ofStrs b)
end
end Aim
namespace Aim
open PySem PySem.Spec PyProof.Rows L2
open LamX (TabB Tabs CodeO)
open Stt (cnt sto)
variable {S : Type} [Stt S]
section
variable {X : Cx} {pins : List (Addr × Obj)} {σ : L2.St} {H : Hp} {s : Shared} {C dx x : Addr} {ks : List Str} {xs : List V}
def toM (H : Hp) (C dx x : Addr) (ks : List Str) (xs : List V) : Hp := upd (upd H dx (OwnS (.ins ks) xs dx)) x (HidX C dx x)
def ofM (H : Hp) (C dx x : Addr) (ks : List Str) (xs : List V) : Hp := upd (upd H dx (.own x)) x (.ins C dx (ks.zip xs))
theorem toM_x : toM H C dx x ks xs x = some (HidX C dx x) := upd_same
theorem toM_d (n : dx ≠ x) : toM H C dx x ks xs dx = some (OwnS (.ins ks) xs dx) := by
  unfold toM
  rw [upd_ne n, upd_same]
theorem toM_ne {b : Addr} (h1 : b ≠ x) (h2 : b ≠ dx) : toM H C dx x ks xs b = H b := by
  unfold toM
  rw [upd_ne h1, upd_ne h2]
theorem ofM_ne {b : Addr} (h1 : b ≠ x) (h2 : b ≠ dx) : ofM H C dx x ks xs b = H b := by
  unfold ofM
  rw [upd_ne h1, upd_ne h2]
theorem to_making (I : Inv X pins σ H s) (hx : H x = some (.ins C dx (ks.zip xs))) (l : ks.length = xs.length) : Inv X pins σ (toM H C dx x ks xs) s ∧ dx ≠ x := by
  obtain ⟨ho, hl, ne, hg, mA, ns, r, wi⟩ := (show ObjOk X.prog X.w H s.heap x (.ins C dx (ks.zip xs)) from I.hok x _ hx)
  have l2 : xs.length ≤ 1000 := by
    rw [List.length_zip, l, Nat.min_self] at hl
    exact hl
  have y : shφ (.ins ks) xs dx s.heap := by
    obtain ⟨o, es, ep, e1, e2, _⟩ := ns.ns
    exact ⟨⟨l, l2⟩, ⟨o, es, _, e1, e2⟩, mA, ns, r, wi⟩
  refine ⟨I.un (h' := s.heap) (t' := s.toks) ⟨fun b o e _ _ _ => e, fun b o e _ _ _ => ⟨o.slots, e⟩, fun b o e n _ => ?_, fun b o e _ => ⟨o, e⟩, fun b ys e => ?_, fun b o u e => ?_, fun b ps e => ⟨#[], ?_⟩⟩ fun b o e => ?_, ne⟩
  · rw [toM_ne (fun z => by rw [z, hx] at n; cases n) fun z => by rw [z, ho] at n; cases n]
    exact n
  · rw [toM_ne (fun z => by rw [z, hx] at e; cases e) fun z => by rw [z, ho] at e; cases e]
    exact e
  · rw [toM_ne (fun z => by rw [z, hx] at e; cases e) fun z => by rw [z, ho] at e; cases e]
    exact e
  · rw [toM_ne (fun z => by rw [z, hx] at e; cases e) (fun z => by rw [z, ho] at e; cases e), Array.append_empty]
    exact e
  · by_cases b1 : b = x
    · subst b1
      rw [toM_x] at e
      cases e
      exact ⟨hg, ⟨_, hg⟩, fun h1 h2 q f => f _ q⟩
    by_cases b2 : b = dx
    · subst b2
      rw [toM_d ne] at e
      cases e
      exact OwnS.insOk y
    rw [toM_ne b1 b2] at e
    refine ok_beside (I.hok b o e) (fun c z => ?_) fun c ys z => ?_
    · rw [toM_ne (fun w => by rw [w, hx] at z; cases z) fun w => by rw [w, ho] at z; cases z; exact b1 rfl]
      exact z
    · rw [toM_ne (fun w => by rw [w, hx] at z; cases z) fun w => by rw [w, ho] at z; cases z]
      exact z
theorem of_making (I : Inv X pins σ H s) (hx : H x = some (HidX C dx x)) (hd : H dx = some (OwnS (.ins ks) xs dx)) : Inv X pins σ (ofM H C dx x ks xs) s ∧ dx ≠ x ∧ ks.length = xs.length := by
  obtain ⟨hg, _, _⟩ := (show ObjOk X.prog X.w H s.heap x (HidX C dx x) from I.hok x _ hx)
  obtain ⟨⟨l, l2⟩, ⟨o, es, ep, e1, e2⟩, mA, ns, r, wi⟩ := OwnS.at I.hok hd
  have hg : s.heap.get? x = some (PySem.W.instObj C dx) := hg
  have ne : dx ≠ x := fun z => by
    rw [z, hg] at e1
    cases e1
    cases e2
  have hne : ∀ {b : Addr} {u : HO}, H b = some u → (∀ φ, u ≠ .ext φ) → b ≠ x ∧ b ≠ dx := fun {b u} e q => ⟨fun z => by rw [z, hx] at e; exact q _ (Option.some.inj e).symm, fun z => by rw [z, hd] at e; exact q _ (Option.some.inj e).symm⟩
  refine ⟨I.un (h' := s.heap) (t' := s.toks) ⟨fun b o e _ _ _ => e, fun b o e _ _ _ => ⟨o.slots, e⟩, fun b o e n _ => ?_, fun b o e _ => ⟨o, e⟩, fun b ys e => ?_, fun b o u e => ?_, fun b ps e => ⟨#[], ?_⟩⟩ fun b o e => ?_, ne, l⟩
  · rw [ofM_ne (fun z => by rw [z, hx] at n; cases n) fun z => by rw [z, hd] at n; cases n]
    exact n
  · obtain ⟨h1, h2⟩ := hne e fun φ z => nomatch z
    rw [ofM_ne h1 h2]
    exact e
  · obtain ⟨h1, h2⟩ := hne e fun φ z => nomatch z
    rw [ofM_ne h1 h2]
    exact e
  · obtain ⟨h1, h2⟩ := hne e fun φ z => nomatch z
    rw [ofM_ne h1 h2, Array.append_empty]
    exact e
  · by_cases b1 : b = x
    · subst b1
      have e' : ofM H C dx b ks xs b = some (.ins C dx (ks.zip xs)) := upd_same
      rw [e'] at e
      cases e
      refine ⟨?_, by rw [List.length_zip, l, Nat.min_self]; exact l2, ne, hg, mA, ns, r, wi⟩
      unfold ofM
      rw [upd_ne ne, upd_same]
    by_cases b2 : b = dx
    · subst b2
      have e' : ofM H C b x ks xs b = some (.own x) := by
        unfold ofM
        rw [upd_ne ne, upd_same]
      rw [e'] at e
      cases e
      exact ⟨_, e1⟩
    rw [ofM_ne b1 b2] at e
    refine ok_beside (I.hok b o e) (fun c z => ?_) fun c ys z => ?_
    · obtain ⟨h1, h2⟩ := hne z fun φ w => nomatch w
      rw [ofM_ne h1 h2]
      exact z
    · obtain ⟨h1, h2⟩ := hne z fun φ w => nomatch w
      rw [ofM_ne h1 h2]
      exact z
theorem pe_ofM {e : Expr} {t : TE} (h : PE X e t) : PE X e (fun σ H Q => t σ H fun v H1 => ∃ C dx x ks xs, v = .ref x ∧ H1 x = some (HidX C dx x) ∧ H1 dx = some (OwnS (.ins ks) xs dx) ∧ Q v (ofM H1 C dx x ks xs)) :=
  ⟨fun pins s σ H Q I q => thn (h.run pins s σ H _ I q) fun u s1 ⟨v, H1, I1, r, C, dx, x, ks, xs, e, hx, hd, q1⟩ => ⟨v, _, (of_making I1 hx hd).1, r, q1⟩⟩
theorem ps_toM {st : Stmt} {t : TS} (h : PS X st t) : PS X st (fun D σ H => t { D with nx := fun σ' H' => ∃ C dx x ks xs, H' x = some (.ins C dx (ks.zip xs)) ∧ ks.length = xs.length ∧ D.nx σ' (toM H' C dx x ks xs) } σ H) :=
  ⟨fun pins s σ H D I q => thn (h.run pins s σ H _ I q) fun fl s1 z => by
    cases fl with
    | next =>
      obtain ⟨σ', H', I1, C, dx, x, ks, xs, hx, l, q1⟩ := z
      exact ⟨σ', _, (to_making I1 hx l).1, q1⟩
    | _ => exact z⟩
end
section
variable {K : PySem.W.Frag} {n m : S} {H H' : Hp} {ρ : List Sl} {σ : L2.St} {TT : List (Addr × Str)}
theorem Rel.putIns {i : Nat} {x C : Addr} {ks : List Str} {ds : List Dat} {o : Option V} (r : Rel K ρ n σ H) (h : SlR K n H (.ins x C ks ds) o) : Rel K (ρ.set i (.ins x C ks ds)) n (σ.set i o) H := by
  refine ⟨by simpa using r.len, fun j s e => ?_, fun j k a b ne h1 h2 => ?_, r.st⟩
  · rw [List.getElem?_set] at e
    split at e
    · rename_i hij
      subst hij
      split at e
      · rename_i hl
        cases e
        refine ⟨o, ?_, h⟩
        rw [List.getElem?_set_self (by rw [← r.len]; exact hl)]
      · cases e
    · rename_i hij
      obtain ⟨o, e1, q⟩ := r.sl j s e
      exact ⟨o, by rw [List.getElem?_set_ne hij]; exact e1, q⟩
  · have key : ∀ j a, Owns (ρ.set i (.ins x C ks ds)) (σ.set i o) j a → Owns ρ σ j a := fun j a hq80 => by
      obtain ⟨⟨ds, e1⟩, e2⟩ := hq80
      rw [List.getElem?_set] at e1
      split at e1
      · split at e1 <;> cases e1
      · rename_i hij
        rw [List.getElem?_set_ne hij] at e2
        exact ⟨⟨ds, e1⟩, e2⟩
    exact r.ap j k a b ne (key _ _ h1) (key _ _ h2)
def oneIns (ρ : List Sl) (i : Nat) : Prop := ∀ (j : Nat) (a C : Addr) (ks : List Str) (ds : List Dat), j ≠ i → ρ[j]? ≠ some (.ins a C ks ds)
theorem Rel.remake {i : Nat} {C x dx : Addr} {ks ks' : List Str} {xs xs' : List V} {ds ds' : List Dat} (r : Rel K ρ n σ H) (h : ρ[i]? = some (.ins x C ks ds)) (hσ : σ[i]? = some (some (.ref x))) (one : oneIns ρ i) (hx : H x = some (HidX C dx x)) (hd : H dx = some (OwnS (.ins ks) xs dx)) (hs : sto n x = none ∧ sto n dx = none)
    (l : ks'.length = xs'.length) (s : SeesL K n H xs' ds') : Rel K (ρ.set i (.ins x C ks' ds')) n σ (upd H dx (OwnS (.ins ks') xs' dx)) := by
  have fo : Fra K [] n H n (upd H dx (OwnS (.ins ks') xs' dx)) := .own hd hs.2
  have ne : dx ≠ x := fun z => by
    rw [z, hx] at hd
    exact kind_ins (z ▸ (Option.some.inj hd).symm)
  have z := (Rel.drop (i := i) (o := none) r).mono fo (k2 := fun j C' x' dy js es ys e1 hx' hd' _ _ => ?_) fun j b zs ow lz eb sb => ⟨?_, sb⟩
  · have w := z.putIns (i := i) (x := x) (C := C) (ks := ks') (ds := ds') (o := some (.ref x)) (.ins l (by rw [upd_ne (Ne.symm ne)]; exact hx) upd_same hs (s.mono fo))
    simp only [List.set_set] at w
    rw [(r.here h hσ).2] at w
    exact w
  · exact upd_ne fun w => by
      rw [w, hd] at eb
      exact own_kind lz (w ▸ Option.some.inj eb)
  · exfalso
    rw [List.getElem?_set] at e1
    split at e1
    · split at e1 <;> cases e1
    · rename_i hij
      exact one j x' C' js es (Ne.symm hij) e1
end
def insOf : Sl → (Addr → Addr → List Str → List Dat → Prop) → Prop
  | .ins a C ks ds, P => P a C ks ds
  | _, _ => False
theorem insOf_of {ρ : List Sl} {i : Nat} {P : Addr → Addr → List Str → List Dat → Prop} (h : insOf (slAt ρ i) P) : ∃ a C ks ds, ρ[i]? = some (.ins a C ks ds) ∧ P a C ks ds := by
  cases e : slAt ρ i with
  | ins a C ks ds => rw [e] at h; exact ⟨a, C, ks, ds, slAt_of e (by simp), h⟩
  | _ => rw [e] at h; exact h.elim
theorem putF_new {f : Str} {y : V} : ∀ {ks : List Str} {xs : List V}, ks.length = xs.length → f ∉ ks → putF f y (ks.zip xs) = (ks ++ [f]).zip (xs ++ [y])
  | [], [], _, _ => rfl
  | k :: ks, x :: xs, l, n => by
    show (if k = f then _ else (k, x) :: putF f y (ks.zip xs)) = (k, x) :: (ks ++ [f]).zip (xs ++ [y])
    rw [if_neg fun z => n (by simp [z]), putF_new (Nat.succ.inj l) fun z => n (by simp [z])]
section
variable {X : Cx} {TT : List (Addr × Str)} {E : XK} {i : Nat} {C : Addr} {f : Str} {o value : Expr} {fe : GDE S} {pos pos' : Pos}
def dSelf (i : Nat) (C : Addr) (f : Str) (fe : GDE S) : GDS S := fun P ρ n => fe ρ n (fun d m => insOf (slAt ρ i) fun a C' ks ds => C' = C ∧ f ∉ ks ∧ ks.length < 900 ∧ oneIns ρ i ∧ P.nx (ρ.set i (.ins a C (ks ++ [f]) (ds ++ [d]))) m) P.ex
theorem ds_self (c : Cls X.K C) (na : NoAttr X.K C f) (ho : PE X o (tVar i)) (hv : PE X value (LE X.K TT E fe)) (hs : swapsWith value (some (.Attribute o f pos')) pos.line X.env = pure false) : PS X (.Assign [.Attribute o f pos'] value pos) (LS X.K TT E (dSelf i C f fe)) :=
  (ps_toM (ps_fld (pe_ofM ho) hv hs)).imp fun D σ H hz7 => ex6 hz7 fun ρ n P rl q k => ⟨ρ, n, _, P.ex, rl, q, fun d m y H1 z e sy => by
    obtain ⟨x, C', ks, ds, hρ, rfl, nf, hl, one, z⟩ := insOf_of z
    have r1 := rl.fre e
    obtain ⟨dx, xs, hσ, l, hx, hd, hs, sx⟩ := r1.making hρ
    have ne : dx ≠ x := fun w => by
      rw [w, hx] at hd
      exact kind_ins (w ▸ (Option.some.inj hd).symm)
    have l' : (ks ++ [f]).length = (xs ++ [y]).length := by simp [l]
    refine ⟨.ref x, hσ, C', dx, x, ks, xs, rfl, hx, hd, x, C', dx, ks.zip xs, rfl, upd_same, c, na, by rw [List.length_zip, l, Nat.min_self]; omega, C', dx, x, ks ++ [f], xs ++ [y], by rw [upd_same, putF_new l nf], l', ?_⟩
    have eH : toM (upd (ofM H1 C' dx x ks xs) x (.ins C' dx (putF f y (ks.zip xs)))) C' dx x (ks ++ [f]) (xs ++ [y]) = upd H1 dx (OwnS (.ins (ks ++ [f])) (xs ++ [y]) dx) := by
      funext b
      by_cases b1 : b = x
      · rw [b1, toM_x, upd_ne (Ne.symm ne), hx]
      · by_cases b2 : b = dx
        · rw [b2, toM_d ne, upd_same]
        · rw [toM_ne b1 b2, upd_ne b1, ofM_ne b1 b2, upd_ne b2]
    rw [eH]
    exact k.nx _ m σ _ z (e.toFra.trans (.own hd hs.2)) (r1.remake hρ hσ one hx hd hs l' (sx.append (.cons sy .nil))), k.ex.toE⟩
end
section
variable {K : PySem.W.Frag} {n m : S} {H H' : Hp} {TT : List (Addr × Str)}
theorem Fra.swap {p : Addr} {sh : Shp} {xs : List V} {o : HO} (h : H p = some (OwnS sh xs p)) (hs : sto n p = none) : Fra K TT n H n (upd H p o) := .wr h hs
theorem sees_made {C dx x : Addr} {ks : List Str} {xs : List V} {ds : List Dat} (hx : H x = some (HidX C dx x)) (hd : H dx = some (OwnS (.ins ks) xs dx)) (l : ks.length = xs.length) (hs : sto m x = none ∧ sto m dx = none) (s : SeesL K m H xs ds) : Fra K TT m H m (ofM H C dx x ks xs) ∧ Sees K m (ofM H C dx x ks xs) (.ref x) (.obj C ks ds) := by
  have ne : dx ≠ x := fun w => by
    rw [w, hx] at hd
    exact kind_ins (w ▸ (Option.some.inj hd).symm)
  have f : ∀ T : List (Addr × Str), Fra K T m H m (ofM H C dx x ks xs) := fun T => (Fra.swap hd hs.2).trans (.swap (sh := .inst C dx) (xs := []) (by rw [upd_ne (Ne.symm ne)]; exact hx) hs.1)
  exact ⟨f TT, .obj upd_same l (s.mono (f []))⟩
theorem lookup_sees {f : Str} {d : Dat} : ∀ {ks : List Str} {xs : List V} {ds : List Dat}, SeesL K n H xs ds → (ks.zip ds).lookup f = some d → ∃ v, (ks.zip xs).lookup f = some v ∧ Sees K n H v d
  | [], _, _, _, h => by cases h
  | _ :: _, _, _, .nil, h => by cases h
  | k :: ks, _, _, .cons (v := v) s1 s2, h => by
    rw [List.zip_cons_cons, List.lookup_cons] at h ⊢
    cases e : f == k with
    | true =>
      rw [e] at h
      cases h
      exact ⟨v, rfl, s1⟩
    | false =>
      rw [e] at h
      exact lookup_sees s2 h
end
def gFld (C : Addr) (f : Str) : Dat → (Dat → Prop) → Prop
  | .obj C' ks ds, P => C' = C ∧ optD ((ks.zip ds).lookup f) P
  | _, _ => False
end Aim
namespace Aim
open PySem PySem.Spec PyProof.Rows L2
open LamX (TabB Tabs CodeO)
open Stt (cnt sto)
variable {S : Type} [Stt S]
def LSpI (K : PySem.W.Frag) (TT : List (Addr × Str)) (C : Addr) (sp : GDSp S) : Sp := fun vs H Q E => ∃ x dx us H0 ds n P R, vs = .ref x :: us ∧ H0 x = none ∧ H0 dx = none ∧ dx ≠ x ∧ H = upd (upd H0 dx (.own x)) x (.ins C dx []) ∧ SeesL K n H0 us ds ∧ sp ds n P R ∧
  (∀ d m H', P d m → Fra K TT n H0 m H' → Sees K m H' (.ref x) d → Q .non H') ∧ ExOk K TT E n H0 R ∧ StoOk K n H0
theorem pss_init {X : Cx} {body : List Stmt} {t : TS} (h : PSs X body t) : PSs X body (fun D σ H => ∃ C dx x, H x = some (.ins C dx []) ∧ t { nx := fun σ' H' => ∃ dy ks xs, H' x = some (HidX C dy x) ∧ H' dy = some (OwnS (.ins ks) xs dy) ∧ D.nx σ' (ofM H' C dy x ks xs), rt := fun _ _ => False } σ (toM H C dx x [] [])) :=
  ⟨fun pins s σ H D I ⟨C, dx, x, hx, q⟩ => thn (h.run pins s σ _ _ (to_making (ks := []) (xs := []) I hx rfl).1 q) fun fl s1 z => by
    cases fl with
    | next =>
      obtain ⟨σ', H', I1, dy, ks, xs, h1, h2, q1⟩ := z
      exact ⟨σ', _, (of_making I1 h1 h2).1, q1⟩
    | ret v =>
      obtain ⟨_, _, _, _, z⟩ := z
      exact z.2.elim
    | _ =>
      obtain ⟨_, _, _, z⟩ := z
      exact z.elim⟩
theorem rel_init {K : PySem.W.Frag} {n : S} {H0 : Hp} {C dx x : Addr} {us : List V} {ds : List Dat} {N : List Str} (h0 : H0 x = none) (h1 : H0 dx = none) (ne : dx ≠ x) (hN : 0 < N.length) (s : SeesL K n H0 us ds) (t : StoOk K n H0) :
    Rel K ((dstart N (.non :: ds)).set 0 (.ins x C [] [])) n (start N (.ref x :: us)) (toM (upd (upd H0 dx (.own x)) x (.ins C dx [])) C dx x [] []) ∧ Grow H0 (toM (upd (upd H0 dx (.own x)) x (.ins C dx [])) C dx x [] []) := by
  have g : Grow H0 (toM (upd (upd H0 dx (.own x)) x (.ins C dx [])) C dx x [] []) := fun b o e => by
    have b1 : b ≠ x := fun z => by rw [z, h0] at e; cases e
    have b2 : b ≠ dx := fun z => by rw [z, h1] at e; cases e
    rw [toM_ne b1 b2, upd_ne b1, upd_ne b2]
    exact e
  refine ⟨?_, g⟩
  have r := rel_start (K := K) (n := n) (H := toM (upd (upd H0 dx (.own x)) x (.ins C dx [])) C dx x [] []) (vs := .ref x :: us) (ds := .ref x :: ds) (.cons (.ref x) (s.grow g)) N (t.mono (.growB g) rfl fun a xs sh _ e => g _ _ e)
  have w := r.putIns (i := 0) (x := x) (C := C) (ks := []) (ds := []) (o := some (.ref x)) (.ins (xs := []) rfl toM_x (toM_d ne) ⟨t.free h0, t.free h1⟩ .nil)
  have e : (start N (V.ref x :: us)).set 0 (some (.ref x)) = start N (V.ref x :: us) := rfl
  rw [e] at w
  exact w
section
variable {P : Program} {w : World} {K : PySem.W.Frag} {mg : Str → Option Value} {base : Heap} {TT : List (Addr × Str)} {k : Nat} {sp : GDSp S} {N ps : List Str}
theorem rn_init {qual : Str} {st : Stmt} {C f : Addr} {dV kV doc pm cdv ct oc : Value} {an od : Option Addr} {osl : Array (Option Value)} (lk : K.lookup f = some ⟨oc, od, .func (PySem.W.fnOf "__init__" qual (defArgs st) (defBody st) (defScope st) dV kV doc pm an cdv ct), osl⟩) (hcd : PySem.W.codeIn K cdv qual = true) (S : FnScope N ps (defScope st)) (hN : 0 < N.length)
    (body : ∀ (A : Around) (outer : List Env) (s : Shared) (H : Hp) (E : XK), Room k (A.deeper (envOfC qual (defScope st) s.heap.objs.size f cdv)) →
      ∃ g, PSs (cxOf (L2.CX P w) P w K mg base N qual (defScope st) f cdv A outer s H E) (defBody st) (LS K TT E g) ∧ ∀ x ds n PP R, sp ds n PP R → g { nx := fun ρ' m => insOf (slAt ρ' 0) fun a C' ks es => a = x ∧ C' = C ∧ PP (.obj C ks es) m, rt := fun _ _ => False, ex := R } ((dstart N (.non :: ds)).set 0 (.ins x C [] [])) n)
    (hl : ∀ ds n PP R, sp ds n PP R → ds.length + 1 = ps.length) : Rn P w K mg base false (k + 1) f (PySem.W.fnOf "__init__" qual (defArgs st) (defBody st) (defScope st) dV kV doc pm an cdv ct) ps (LSpI K TT C sp) := by
  have len : ∀ vs H Q E, LSpI K TT C sp vs H Q E → vs.length = ps.length := fun vs H Q E h => by
    obtain ⟨x, dx, us, H0, ds, n, PP, R, rfl, _, _, _, _, s, h, _⟩ := h
    rw [List.length_cons, s.length]
    exact hl _ _ _ _ h
  refine ⟨len, fun {A fr s H args us vs Q E} hr _ e0 b r q => LamX.run_ofS lk hcd S hr e0 b r (len _ _ _ _ q) fun hr' => ?_⟩
  obtain ⟨g, hp, z⟩ := body A fr s H E hr'
  obtain ⟨x, dx, us', H0, ds, n, PP, R, rfl, h0, h1, ne, rfl, se, h, kQ, kE, kS⟩ := q
  obtain ⟨r0, gr⟩ := rel_init (C := C) (N := N) h0 h1 ne hN se kS
  refine ⟨_, pss_init hp, C, dx, x, upd_same, _, n, _, r0, z x ds n PP R h, ⟨fun ρ m σ H' p fr' rl => ?_, fun _ _ _ _ z => z.elim, fun _ _ _ _ z => z.elim, fun _ _ _ _ z => z.elim, kE.mono (.grow gr)⟩⟩
  obtain ⟨_, _, ks, es, hρ, rfl, rfl, p⟩ := insOf_of p
  obtain ⟨dy, xs, hσ, l, hx, hd, hs, sx⟩ := rl.making hρ
  obtain ⟨f1, s1⟩ := sees_made (TT := TT) hx hd l hs sx
  exact ⟨dy, ks, xs, hx, hd, kQ _ m _ p (((Fra.grow gr).trans fr').trans f1) s1⟩
end
end Aim
namespace Aim
open PySem PySem.Spec PyProof.Rows L2
open LamX (TabB Tabs CodeO)
open Stt (cnt sto)
variable {S : Type} [Stt S]
structure DfI (P : Program) (w : World) (K : PySem.W.Frag) (mg : Str → Option Value) (base : Heap) (TT : List (Addr × Str)) (k : Nat) (C : Addr) (sp : GDSp S) : Prop where
  ex : ∃ (f : Addr) (fd : FuncData) (ps : List Str), Rn P w K mg base false k f fd ps (LSpI K TT C sp) ∧ Mk K C f ∧ L2.Binds K fd ps []
theorem cutO_made {n : S} {H : Hp} {C dx x : Addr} (h0 : H x = none) (h1 : H dx = none) : cutO n (upd (upd H dx (.own x)) x (.ins C dx [])) = upd (upd (cutO n H) dx (.own x)) x (.ins C dx []) := by
  funext b
  by_cases b1 : b = x
  · subst b1
    rw [upd_same, cutO_out, upd_same]
    rintro ⟨⟨sh, xs, e⟩, _⟩
    rw [upd_same] at e
    cases e
  · rw [upd_ne b1]
    by_cases b2 : b = dx
    · subst b2
      rw [upd_same, cutO_out, upd_ne b1, upd_same]
      rintro ⟨⟨sh, xs, e⟩, _⟩
      rw [upd_ne b1, upd_same] at e
      cases e
    · rw [upd_ne b2]
      unfold cutO Prv
      rw [upd_ne b1, upd_ne b2]
section
variable {X : Cx} {TT : List (Addr × Str)} {E : XK} {k j : Nat} {C : Addr} {x : Str} {sp : GDSp S} {e : Expr} {es : List Expr} {fr : GDA S} {p pos : Pos}
theorem run_makeO {pins : List (Addr × Obj)} {σ : L2.St} {H : Hp} {s : Shared} {Q : VK} {us : List Value} {vs : List V} {f : Addr} {fd : FuncData} {ps : List Str} (M : Mk X.K C f) (F : Rn X.prog X.w X.K X.mg X.base false k f fd ps (LSpI X.K TT C sp)) (hr : Room (k + 1) X.A) (hb : L2.Binds X.K fd ps [])
    (hx : Passes (L2.CX X.prog X.w) X E) (I : Inv X pins σ H s) (r : Vals vs us) {ds : List Dat} {n : S} {PP : Dat → S → Prop} {R : GRX S} (se : SeesL X.K n H vs ds) (q : sp ds n PP R) (kQ : ∀ d m v H', PP d m → Fre X.K TT n H m H' → Sees X.K m H' v d → Q v H') (kE : ExE X.K TT E n H R) (kS : StoOk X.K n H) :
    wpAny (model X.prog X.w) X.A (call (.ref C) us) (EP X pins σ Q) X.xe s := by
  have h0 : H (s.heap.objs.size + 1) = none := I.hok.fresh (Nat.le_succ _)
  have h1 : H s.heap.objs.size = none := I.hok.fresh (Nat.le_refl _)
  have ne : s.heap.objs.size ≠ s.heap.objs.size + 1 := Nat.ne_of_lt (Nat.lt_succ_self _)
  have I2 := Inv.made (C := C) I
  have prv : ∀ b, Prv n H b → Prv n (upd (upd H s.heap.objs.size (.own (s.heap.objs.size + 1))) (s.heap.objs.size + 1) (.ins C s.heap.objs.size [])) b := fun b ⟨⟨sh, xs, e⟩, es⟩ => ⟨⟨sh, xs, by
    rw [upd_ne (fun z => by rw [z, h0] at e; cases e), upd_ne (fun z => by rw [z, h1] at e; cases e)]
    exact e⟩, es⟩
  have same : ∀ G : Hp, (∀ b, Prv n H b → G b = none) → glueO n (upd (upd H s.heap.objs.size (.own (s.heap.objs.size + 1))) (s.heap.objs.size + 1) (.ins C s.heap.objs.size [])) G = glueO n H G := fun G _ => by
    funext b
    by_cases pb : Prv n H b
    · rw [glueO_in pb, glueO_in (prv b pb)]
      obtain ⟨⟨sh, xs, e⟩, _⟩ := pb
      rw [upd_ne (fun z => by rw [z, h0] at e; cases e), upd_ne (fun z => by rw [z, h1] at e; cases e)]
    · rw [glueO_out pb, glueO_out]
      rintro ⟨⟨sh, xs, e⟩, es⟩
      by_cases b1 : b = s.heap.objs.size + 1
      · rw [b1, upd_same] at e
        cases e
      · rw [upd_ne b1] at e
        by_cases b2 : b = s.heap.objs.size
        · rw [b2, upd_same] at e
          cases e
        · rw [upd_ne b2] at e
          exact pb ⟨⟨sh, xs, e⟩, es⟩
  have hq : LSpI X.K TT C sp (.ref (s.heap.objs.size + 1) :: vs) (cutO n (upd (upd H s.heap.objs.size (.own (s.heap.objs.size + 1))) (s.heap.objs.size + 1) (.ins C s.heap.objs.size []))) (fun v G => (∀ b, Prv n (upd (upd H s.heap.objs.size (.own (s.heap.objs.size + 1))) (s.heap.objs.size + 1) (.ins C s.heap.objs.size [])) b → G b = none) → v = .non ∧ Q (.ref (s.heap.objs.size + 1)) (glueO n (upd (upd H s.heap.objs.size (.own (s.heap.objs.size + 1))) (s.heap.objs.size + 1) (.ins C s.heap.objs.size [])) G)) (fun c d G => (∀ b, Prv n (upd (upd H s.heap.objs.size (.own (s.heap.objs.size + 1))) (s.heap.objs.size + 1) (.ins C s.heap.objs.size [])) b → G b = none) → E c d (glueO n (upd (upd H s.heap.objs.size (.own (s.heap.objs.size + 1))) (s.heap.objs.size + 1) (.ins C s.heap.objs.size [])) G)) := by
    have ec := cutO_made (n := n) (C := C) h0 h1
    rw [ec]
    refine ⟨_, _, vs, cutO n H, ds, n, PP, R, rfl, cutO_none h0, cutO_none h1, ne, rfl, se.mono (TT := TT) Fra.cut, q, fun d m G p g t gone => ⟨rfl, by
      have gone' : ∀ b, Prv n H b → G b = none := fun b pb => gone b (prv b pb)
      rw [same G gone']
      exact kQ d m _ _ p (.glue g kS gone') (t.grow (grow_glue gone'))⟩, ⟨(Fra.cut (K := X.K) (n := n)).tab kE.tab, fun C d m dd v G p g hd t gone => ?_⟩, (Fra.cut (TT := TT)).st kS⟩
    have gone' : ∀ b, Prv n H b → G b = none := fun b pb => gone b (prv b pb)
    rw [same G gone']
    exact kE.ex C d m dd v _ p (Fre.glue g kS gone') (grow_glue gone' _ _ hd) (t.grow (grow_glue gone'))
  have r2 : Vals (V.ref (s.heap.objs.size + 1) :: vs) (Value.ref (s.heap.objs.size + 1) :: us) := .cons rfl r
  have hl : (Value.ref (s.heap.objs.size + 1) :: us).length = ps.length := by
    have e := r2.length
    rw [F.len _ _ _ _ hq] at e
    exact e.symm
  have hb2 := hb _ (Value.ref (s.heap.objs.size + 1) :: us) I2.kIn (by rw [List.append_nil]; exact hl)
  rw [List.append_nil] at hb2
  refine wpAny_call (make_map (f := f) I.kIn M.makes M.init (beq_iff_eq.mp M.fn) (codeAny_mono (F.run (args := ⟨Value.ref (s.heap.objs.size + 1) :: us, []⟩) (hr.make C us []) (fun z => nomatch z) ((env0_cutO I2.env0).make C us []) hb2 r2 hq) fun y s' hq' => ?_))
  match y, hq' with
  | .error e, hq' => exact hx pins σ _ _ e s' I2 (cx_glueO I2.hok I2.env0.frf hq')
  | .ok (.ret u), hq' =>
    obtain ⟨v, H', I3, rv, ev, q3⟩ := I2.after (ce_glueO (Q := fun v H' => v = .non ∧ Q (.ref (s.heap.objs.size + 1)) H') I2.hok I2.env0.frf hq')
    subst ev
    exact ⟨rv, ⟨V.ref (s.heap.objs.size + 1), H', I3, rfl, q3⟩⟩
theorem de_make (d : DfI X.prog X.w X.K X.mg X.base TT k C sp) (hr : Room j X.A) (hk : k + 1 ≤ j) (gl : Gl X x) (hm : X.mg x = some (.ref C)) (hx : Passes (L2.CX X.prog X.w) X E) (ha : PA X (e :: es) (LA X.K TT E fr))
    (hdb : (x == ("__debug__" : Str)) = false := by decide) (he : starEach (e :: es) X.env = (false, eval e X.env) :: starEach es X.env := by rfl) (hpl : (backTo pos (starEach es X.env)).any (·.1) = false := by rfl) :
    PE X (.Call (.Name x p) (e :: es) [] pos) (LE (S := S) X.K TT E (dCall sp fr)) := by
  obtain ⟨f, fd, ps, F, M, hb⟩ := d.ex
  refine ⟨fun pins s σ H Q I h => wpAny_Call_Name_kw (ld_glob I gl hm ?_ hdb)⟩
  obtain ⟨ρ, n, P, R, rl, q, kQ, kE⟩ := h
  refine PySem.W.callWith_K (h₀ := X.base) I.ok.mod.kin M.kp (thn (ha.run pos pins s σ H (fun vs H1 => ∃ ds m, SeesL X.K m H1 vs ds ∧ sp ds m P R ∧ Fre X.K TT n H m H1) I ⟨ρ, n, _, R, rl, q, fun ds m vs H1 z e s => ⟨ds, m, s, z, e⟩, kE⟩) fun us s1 ⟨vs, H1, I1, r, ds, m, se, z, e⟩ => ⟨I1.kIn, ?_⟩) he hpl
  exact run_makeO M F (hr.mono hk) hb hx I1 r se z (fun d i v H' y g t => kQ d i v H' y (e.trans g) t) (kE.mono e) (e.st rl.st)
end
end Aim
namespace Aim
open PySem PySem.Spec PyProof.Rows L2
open LamX (TabB Tabs CodeO)
open Stt (cnt sto)
variable {T0 : Type} [Stt T0]
section
variable {K : PySem.W.Frag} {TT : List (Addr × Str)} {E : XK} {X : Cx} {e : Expr} {w : World}
def seqTx : Dat → (List Str → Prop) → Prop
  | .lst ds, P => txts ds P
  | .tup ds, P => txts ds P
  | _, _ => False
theorem seqTx_of {n : T0} {H : Hp} {v : V} {d : Dat} {P : List Str → Prop} (s : Sees K n H v d) (h : seqTx d P) : ∃ l xs, v = .ref l ∧ (SqL K H l (xs.map V.str) ∨ SqT K H l (xs.map V.str)) ∧ (∀ b ∈ xs, StrB b) ∧ P xs := by
  unfold seqTx at h
  split at h
  · obtain ⟨bs, rfl, p⟩ := txts_of h
    obtain ⟨l, xs, rfl, h1, h2, h3⟩ := s.lst_iff
    obtain ⟨rfl, hb⟩ := h3.txts
    exact ⟨l, bs, rfl, .inl h1, hb, p⟩
  · obtain ⟨bs, rfl, p⟩ := txts_of h
    obtain ⟨l, xs, rfl, h1, h2, h3⟩ := s.tup_iff
    obtain ⟨rfl, hb⟩ := h3.txts
    exact ⟨l, bs, rfl, .inr h1, hb, p⟩
  · exact h.elim
def gLenSet : Dat → (Dat → Prop) → Prop := fun d P => seqTx d fun xs => xs.length ≤ 2000 ∧ P (.int (uniq xs).length)
theorem de_lenSet {f : GDE T0} (h : PE X e (tCB (rLenSS w) (tCons (tCB (rSetOfS X.K w) (tCons (LE X.K TT E f) tNil)) tNil))) : PE X e (LE X.K TT E (dUn gLenSet f)) := h.imp fun σ H Q hq80 => by
  obtain ⟨ρ, n, P, R, r, q, k, x⟩ := hq80
  refine ⟨ρ, n, _, R, r, q, fun d m v H1 z e s => ?_, x⟩
  obtain ⟨l, xs, rfl, hs, _, hl, p⟩ := seqTx_of s z
  refine ⟨l, xs, rfl, hs, hl, fun a ha => ⟨a, _, _, rfl, upd_same, ?_⟩⟩
  exact k _ m _ _ p (e.trans (.grow (.new ha))) (.int _)
def gSortSet (f : GDE T0) : GDA T0 := fun ρ n P R => f ρ n (fun d m => seqTx d fun xs => xs.length < 64 ∧ ∀ ys : List Str, ys.Nodup → (∀ k, k ∈ ys ↔ k ∈ xs) → sortedS ys = true → P (ys.map .str) m) R
theorem lf_sortSet {f : GDE T0} (h : PE X e (tCB (rSortSS w) (tCons (tCB (rSetOfS X.K w) (tCons (LE X.K TT E f) tNil)) tNil))) : PE X e (LF X.K TT E (gSortSet f)) := h.imp fun σ H Q hq80 => by
  obtain ⟨ρ, n, P, R, r, q, k, x⟩ := hq80
  refine ⟨ρ, n, _, R, r, q, fun d m v H1 z e s => ?_, x⟩
  obtain ⟨l, xs, rfl, hs, hb, hl, p⟩ := seqTx_of s z
  refine ⟨l, xs, rfl, hs, by omega, fun a ha => ⟨a, _, _, rfl, upd_same, by have := uniq_le xs; omega, fun ys p' nd hm st _ hp => ?_⟩⟩
  have hb' : ∀ b ∈ ys, StrB b := fun b hy => hb b (of_decide_eq_true ((hm b).mp hy))
  refine lf_grow k (p ys nd (fun k => (hm k).trans decide_eq_true_iff) st) (e.trans (.grow (.new ha))) r.st hp ?_ (SeesL.ofStrs hb')
  rw [List.length_map, nodup_len nd (uniq_nodup xs) fun x => by rw [uniq_mem, hm x, decide_eq_true_eq]]
  have := uniq_le xs
  rw [sizeLine_eq]
  omega
end
end Aim
namespace Aim
open PySem PySem.Spec PyProof.Rows L2
open LamX (TabB Tabs CodeO)
open Stt (cnt sto)
variable {S : Type} [Stt S]
abbrev GDSF (S : Type) := (List Dat → S → Prop) → GRX S → List Sl → S → Prop
abbrev GDSpF (S : Type) := List Dat → S → (List Dat → S → Prop) → GRX S → Prop
abbrev DSpF := GDSpF Nat
section
variable {K : PySem.W.Frag} {TT : List (Addr × Str)} {E : XK} {X : Cx}
def NewL (K : PySem.W.Frag) (TT : List (Addr × Str)) (n : S) (H : Hp) (es : List Dat) (m : S) (xs : List V) (a : Addr) (H' : Hp) : Prop := H' a = some (.lst xs) ∧ xs.length ≤ sizeLine ∧ sto m a = none ∧ Fra K TT n H m (upd H' a (OwnO xs a)) ∧ SeesL K m (upd H' a (OwnO xs a)) xs es
structure OkF (K : PySem.W.Frag) (TT : List (Addr × Str)) (E : XK) (n : S) (H : Hp) (P : List Dat → S → Prop) (R : GRX S) (D : Ends) : Prop where
  rt : ∀ es m xs a H', P es m → NewL K TT n H es m xs a H' → D.rt (.ref a) H'
  ex : ExOk K TT E n H R
theorem OkF.mono {n m : S} {H H1 : Hp} {P : List Dat → S → Prop} {R : GRX S} {D : Ends} (k : OkF K TT E n H P R D) (f : Fra K TT n H m H1) : OkF K TT E m H1 P R D := ⟨fun es j xs a H' p ⟨h1, l, hs, g, s⟩ => k.rt es j xs a H' p ⟨h1, l, hs, f.trans g, s⟩, k.ex.mono f⟩
def LSF (K : PySem.W.Frag) (TT : List (Addr × Str)) (E : XK) (g : GDSF S) : TS := fun D σ H => ∃ ρ n P R, Rel K ρ n σ H ∧ g P R ρ n ∧ OkF K TT E n H P R D
def dSeqF (g1 : GDS S) (g2 : GDSF S) : GDSF S := fun P R ρ n => g1 { nx := g2 P R, rt := fun _ _ => False, ex := R } ρ n
theorem dsf_cons {st : Stmt} {sts : List Stmt} {g1 : GDS S} {g2 : GDSF S} (h1 : PS X st (LS K TT E g1)) (h2 : PSs X sts (LSF K TT E g2)) : PSs X (st :: sts) (LSF K TT E (dSeqF g1 g2)) := (pss_cons h1 h2).imp fun D σ H ⟨ρ, n, P, R, r, f, k⟩ =>
  ⟨ρ, n, _, r, f, ⟨fun ρ' m σ' H' q e r' => ⟨ρ', m, P, R, r', q, k.mono e⟩, fun _ _ _ _ z => z.elim, fun _ _ _ _ z => z.elim, fun _ _ _ _ z => z.elim, k.ex⟩⟩
def dRetF (i : Nat) : GDSF S := fun P _ ρ n => ownOf (slAt ρ i) fun ds => P ds n
theorem dsf_ret {i : Nat} {e : Expr} {pos : Pos} (h : PE X e (tVar i)) : PSs X [.Return (some e) pos] (LSF (S := S) K TT E (dRetF i)) := ⟨fun pins s σ H D I hq80 => by
  obtain ⟨ρ, n, P, R, rl, q, k⟩ := hq80
  obtain ⟨ds, hρ, q⟩ := ownOf_of q
  obtain ⟨a, xs, hσ, l, hH, hs, sx⟩ := rl.owned hρ
  have b : upd (upd H a (.lst xs)) a (OwnO xs a) = H := upd_back hH
  refine (pss_one (ps_ret h)).run pins s σ _ D (of_own I hH) ⟨.ref a, hσ, k.rt ds n xs a _ q ⟨upd_same, l, hs, ?_, ?_⟩⟩
  · rw [b]
    exact .refl
  · rw [b]
    exact sx⟩
def LSpF (K : PySem.W.Frag) (TT : List (Addr × Str)) (sp : GDSpF S) : Sp := fun vs H Q E => ∃ ds n P R, SeesL K n H vs ds ∧ sp ds n P R ∧ (∀ es m xs a H', P es m → NewL K TT n H es m xs a H' → Q (.ref a) H') ∧ ExOk K TT E n H R ∧ StoOk K n H
end
section
variable {P : Program} {w : World} {K : PySem.W.Frag} {mg : Str → Option Value} {base : Heap} {TT : List (Addr × Str)} {G : Bool} {x : Str} {st : Stmt} {N ps : List Str} {k : Nat} {sp : GDSpF S}
theorem dat_okF (F : Has K mg x st) (hb : ∀ f fd, L2.Fun K x x st f fd → L2.Binds K fd ps []) (S : FnScope N ps (defScope st))
    (body : ∀ (f : Addr) (cdv : Value) (A : Around) (outer : List Env) (s : Shared) (H : Hp) (E : XK), Room k (A.deeper (envOfC x (defScope st) s.heap.objs.size f cdv)) → (G = true → A.guards = some []) →
      ∃ g, PSs (cxOf (L2.CX P w) P w K mg base N x (defScope st) f cdv A outer s H E).nox (defBody st) (LSF K TT E0 g) ∧ ∀ ds n PP R, sp ds n PP R → ds.length = ps.length ∧ g PP R0 (dstart N ds) n)
    (hl : ∀ ds n PP R, sp ds n PP R → ds.length = ps.length) : Df P w K mg base G (k + 1) x (LSpF K TT sp) := by
  obtain ⟨f, fd, F, hm⟩ := F.ex
  refine df_ok F hm (hb f fd F) S (fun vs H Q E h => ?_) (fun cdv A outer s H vs Q E hr hG h => ?_)
  · obtain ⟨ds, n, PP, R, s, h, _⟩ := h
    rw [s.length]
    exact hl _ _ _ _ h
  · obtain ⟨g, hp, q⟩ := body f cdv A outer s H E hr hG
    obtain ⟨ds, n, PP, R, se, h, kQ, kE, kS⟩ := h
    exact ⟨_, hp, _, n, PP, R0, rel_start se N kS, (q ds n PP R h).2, ⟨kQ, .zero kE.tab⟩⟩
end
section
variable {X : Cx} {TT : List (Addr × Str)} {E : XK} {k j : Nat} {G : Bool} {x : Str} {e : Expr} {es : List Expr} {fr : GDA S} {p pos : Pos}
def dCallF (sp : GDSpF S) (fr : GDA S) : GDA S := fun ρ n P R => fr ρ n (fun ds m => sp ds m P R) R
theorem lsp_goF {sp : GDSpF S} {σ : L2.St} {H : Hp} {Q : VK} (h : LF X.K TT E (dCallF sp fr) σ H Q) : LA X.K TT E fr σ H fun vs H1 => spO (LSpF X.K TT sp) vs H1 Q E := by
  obtain ⟨ρ, n, P, R, r, f, k, x⟩ := h
  refine ⟨ρ, n, _, R, r, f, fun ds m vs H1 q e s => ⟨S, _, m, ds, m, P, R, s.mono (TT := TT) Fra.cut, q, fun es j xs a G p ⟨ga, l, hs, g, t⟩ gone => ?_, ⟨(Fra.cut (K := X.K) (n := m)).tab (e.tab x.tab), fun C d j dd v G p g hd t gone => ?_⟩, (Fra.cut (TT := TT)).st (e.st r.st)⟩, x⟩
  · have apa : ¬ Prv m H1 a := fun z => by rw [gone a z] at ga; cases ga
    have eq : upd (glueO m H1 G) a (OwnO xs a) = glueO m H1 (upd G a (OwnO xs a)) := by
      funext b
      by_cases hb : b = a
      · rw [hb, upd_same, glueO_out apa, upd_same]
      · rw [upd_ne hb]
        by_cases pb : Prv m H1 b
        · rw [glueO_in pb, glueO_in pb]
        · rw [glueO_out pb, glueO_out pb, upd_ne hb]
    have gone2 : ∀ b, Prv m H1 b → upd G a (OwnO xs a) b = none := fun b pb => by
      rw [upd_ne fun z : b = a => apa (z ▸ pb)]
      exact gone b pb
    refine k es j xs a (glueO m H1 G) p (fun ys z zs => apa ⟨⟨_, ys, (e.own a ys z zs).1⟩, (e.own a ys z zs).2⟩) (grow_glue gone a _ ga) l hs ?_ ?_
    · rw [eq]
      exact e.trans (Fre.glue g (e.st r.st) gone2)
    · rw [eq]
      exact t.grow (grow_glue gone2)
  · exact x.ex C d j dd v _ p (e.trans (Fre.glue g (e.st r.st) gone)) (grow_glue gone _ _ hd) (t.grow (grow_glue gone))
theorem lf_call {sp : GDSpF S} (d : Df X.prog X.w X.K X.mg X.base G k x (LSpF X.K TT sp)) (hr : Room j X.A) (hk : k ≤ j) (hg : G = true → X.A.guards = some []) (gl : Gl X x) (hx : Passes (L2.CX X.prog X.w) X E) (ha : PA X (e :: es) (LA X.K TT E fr))
    (hdb : (x == ("__debug__" : Str)) = false := by decide) (he : starEach (e :: es) X.env = (false, eval e X.env) :: starEach es X.env := by rfl) (hpl : (backTo pos (starEach es X.env)).any (·.1) = false := by rfl) :
    PE X (.Call (.Name x p) (e :: es) [] pos) (LF X.K TT E (dCallF sp fr)) := by
  obtain ⟨f, fd, ps, F, hm, hkp, hb⟩ := d.ex
  refine ⟨fun pins s σ H Q I h => wpAny_Call_Name_kw (ld_glob I gl hm ?_ hdb)⟩
  exact PySem.W.callWith_K (h₀ := X.base) I.ok.mod.kin hkp (thn (ha.run pos pins s σ H _ I (lsp_goF h)) fun us s1 ⟨vs, H1, I1, r, q⟩ => ⟨I1.kIn, run_dfO F (hr.mono hk) hg hb hx I1 r q⟩) he hpl
end
abbrev GDEw (S : Type) := List Sl → S → (Dat → List Sl → S → Prop) → GRX S → Prop
abbrev GDAw (S : Type) := List Sl → S → (List Dat → List Sl → S → Prop) → GRX S → Prop
section
variable (K : PySem.W.Frag) (TT : List (Addr × Str)) (E : XK)
end
section
variable {X : Cx} {TT : List (Addr × Str)} {E : XK} {e : Expr} {es : List Expr} {f : GDE S} {fr : GDA S} {fw : GDEw S} {frw : GDAw S} {pos : Pos}
theorem pe_toOwn {t : TE} (h : PE X e t) : PE X e (fun σ H Q => t σ H fun v H1 => ∃ l xs, H1 l = some (.lst xs) ∧ Q v (upd H1 l (OwnO xs l))) := ⟨fun pins s σ H Q I q => thn (h.run pins s σ H _ I q) fun u s1 ⟨v, H1, I1, r, l, xs, e, q1⟩ => ⟨v, _, to_own I1 e, r, q1⟩⟩
abbrev GDAs (S : Type) := List Sl → S → (List Sl → S → Prop) → GRX S → Prop
inductive SlRs (K : PySem.W.Frag) (n : S) (H : Hp) : List Sl → List V → Prop
  | nil : SlRs K n H [] []
  | cons {s : Sl} {v : V} {ss : List Sl} {vs : List V} : SlR K n H s (some v) → (∀ a C ks ds, s ≠ .ins a C ks ds) → SlRs K n H ss vs → SlRs K n H (s :: ss) (v :: vs)
def NewO (n : S) (H : Hp) : List Sl → List V → Prop
  | .own _ :: ss, .ref a :: vs => (∀ {sh : Shp} (xs : List V), H a = some (OwnS sh xs a) → sto n a ≠ none) ∧ (∀ (j : Nat) ds, ss[j]? = some (.own ds) → vs[j]? ≠ some (.ref a)) ∧ NewO n H ss vs
  | _ :: ss, _ :: vs => NewO n H ss vs
  | _, _ => True
def LAs (K : PySem.W.Frag) (TT : List (Addr × Str)) (E : XK) (f : GDAs S) : TA := fun σ H Q => ∃ ρ n P R, Rel K ρ n σ H ∧ f ρ n P R ∧ (∀ ss m vs H', P ss m → Fre K TT n H m H' → SlRs K m H' ss vs → NewO n H ss vs → Q vs H') ∧ ExE K TT E n H R
theorem SlRs.length {K : PySem.W.Frag} {n : S} {H : Hp} {ss : List Sl} {vs : List V} (h : SlRs K n H ss vs) : vs.length = ss.length := by
  induction h with
  | nil => rfl
  | cons _ _ _ ih => exact congrArg (· + 1) ih
theorem SlR.fre {K : PySem.W.Frag} {TT : List (Addr × Str)} {n m : S} {H H' : Hp} {s : Sl} {o : Option V} (h : SlR K n H s o) (e : Fre K TT n H m H') : SlR K m H' s o := h.mono e.toFra (fun a xs _ _ hH hs _ => ⟨(e.own a xs hH hs).1.trans hH.symm, (e.own a xs hH hs).2⟩) fun C x dx ks ds xs _ _ hx hd s1 s2 => ⟨⟨(e.own dx xs hd s2).1.trans hd.symm, (e.own x [] hx s1).1.trans hx.symm⟩, (e.own x [] hx s1).2, (e.own dx xs hd s2).2⟩
theorem SlRs.fre {K : PySem.W.Frag} {TT : List (Addr × Str)} {n m : S} {H H' : Hp} {ss : List Sl} {vs : List V} (h : SlRs K n H ss vs) (e : Fre K TT n H m H') : SlRs K m H' ss vs := by
  induction h with
  | nil => exact .nil
  | cons a b _ ih => exact .cons (a.fre e) b ih
theorem NewO.older {K : PySem.W.Frag} {TT : List (Addr × Str)} {n m : S} {H H' : Hp} (e : Fre K TT n H m H') : ∀ {ss : List Sl} {vs : List V}, NewO m H' ss vs → NewO n H ss vs
  | [], _, _ => by unfold NewO; first | trivial | (split <;> trivial)
  | s :: ss, [], _ => by cases s <;> trivial
  | s :: ss, v :: vs, h => by
    cases s <;> cases v <;> first
      | exact NewO.older e (ss := ss) (vs := vs) h
      | (exact ⟨fun {sh} xs z zs => h.1 xs (e.own _ xs z zs).1 (e.own _ xs z zs).2, h.2.1, NewO.older e h.2.2⟩)
theorem NewO.at {n : S} {H : Hp} {a : Addr} {ds : List Dat} : ∀ {ss : List Sl} {vs : List V} {i : Nat}, NewO n H ss vs → ss[i]? = some (.own ds) → vs[i]? = some (.ref a) → ∀ {sh : Shp} (xs : List V), H a = some (OwnS sh xs a) → sto n a ≠ none
  | [], _, i, _, h, _ => by simp at h
  | _ :: _, [], i, _, _, h => by simp at h
  | s :: ss, v :: vs, 0, n', h1, h2 => by
    simp at h1 h2
    subst h1
    subst h2
    exact n'.1
  | s :: ss, v :: vs, i + 1, n', h1, h2 => by
    have n' : NewO n H ss vs := by
      cases s <;> cases v <;> first
        | exact n'
        | exact n'.2.2
    exact NewO.at n' (by simpa using h1) (by simpa using h2)
theorem das_nil : PA X [] (LAs (S := S) X.K TT E fun _ n P _ => P [] n) := pa_nil.imp fun σ H Q hz7 => ex8 hz7 fun ρ n P R rl f k x => k [] n [] H f .refl .nil trivial
def dConsV (f : GDE S) (fr : GDAs S) : GDAs S := fun ρ n P R => f ρ n (fun d m => fr ρ m (fun ss j => P (.val d :: ss) j) R) R
def dConsO (f : GDA S) (fr : GDAs S) : GDAs S := fun ρ n P R => f ρ n (fun d m => fr ρ m (fun ss j => P (.own d :: ss) j) R) R
theorem das_val {frs : GDAs S} (h : PE X e (LE X.K TT E f)) (hr : PA X es (LAs X.K TT E frs)) (hs : starEach (e :: es) X.env = (false, eval e X.env) :: starEach es X.env := by rfl) : PA X (e :: es) (LAs X.K TT E (dConsV f frs)) := (pa_cons h hr hs).imp fun σ H Q hz7 => ex8 hz7 fun ρ n P R rl q k x =>
  ⟨ρ, n, _, R, rl, q, fun d m v H1 z e1 s => ⟨ρ, m, _, R, rl.fre e1, z, fun ss j vs H2 z2 e2 s2 n2 => k _ j _ H2 z2 (e1.trans e2) (.cons (.val (s.mono e2.toFra)) (fun _ _ _ _ z => nomatch z) s2) (NewO.older e1 n2), x.mono e1⟩, x⟩
theorem das_own {frs : GDAs S} (h : PE X e (LF X.K TT E fr)) (hr : PA X es (LAs X.K TT E frs)) (hs : starEach (e :: es) X.env = (false, eval e X.env) :: starEach es X.env := by rfl) : PA X (e :: es) (LAs X.K TT E (dConsO fr frs)) := (pa_cons (pe_toOwn h) hr hs).imp fun σ H Q hz7 => ex8 hz7 fun ρ n P R rl q k x =>
  ⟨ρ, n, _, R, rl, q, fun ds m xs p H1 z h0 h1 l hs e1 s => ⟨p, xs, h1, ρ, m, _, R, rl.fre e1, z, fun ss j vs H2 z2 e2 s2 n2 => k _ j _ H2 z2 (e1.trans e2) (.cons (.own l (e2.own _ _ upd_same hs).1 (e2.own _ _ upd_same hs).2 (s.mono e2.toFra)) (fun _ _ _ _ z => nomatch z) s2) ⟨h0, fun i ds' hi hv => n2.at hi hv (sh := .lst) xs upd_same hs, NewO.older e1 n2⟩, x.mono e1⟩, x⟩
theorem Rel.putS {K : PySem.W.Frag} {n : S} {H : Hp} {ρ : List Sl} {σ : L2.St} {i : Nat} {s : Sl} {v : V} (r : Rel K ρ n σ H) (h : SlR K n H s (some v)) (ni : ∀ a C ks ds, s ≠ .ins a C ks ds) (no : ∀ a ds, s = .own ds → v = .ref a → ∀ j b, j ≠ i → Owns ρ σ j b → b ≠ a) : Rel K (ρ.set i s) n (σ.set i (some v)) H := by
  cases h with
  | no => exact r.drop
  | val h => exact r.put h
  | own l h1 hs h2 => exact r.putOwn l h1 hs h2 (no _ _ rfl rfl)
  | ins _ _ _ _ _ => exact absurd rfl (ni _ _ _ _)
def putAll : List Nat → List Sl → List Sl → List Sl
  | i :: is, s :: ss, ρ => putAll is ss (ρ.set i s)
  | _, _, ρ => ρ
def gNames : List Nat → TGs
  | [] => gNil
  | i :: is => gCons (gName i) (gNames is)
theorem names_go {K : PySem.W.Frag} {n n' : S} {H H' : Hp} {Q : L2.St → Hp → Prop} : ∀ {is : List Nat} {ss : List Sl} {vs : List V} {ρ : List Sl} {σ : L2.St}, Rel K ρ n σ H → SlRs K n H ss vs → is.length = ss.length → (∀ (i : Nat) a ds j b, ss[i]? = some (.own ds) → vs[i]? = some (.ref a) → Owns ρ σ j b → b ≠ a) → NewO n' H' ss vs →
    (∀ σ', Rel K (putAll is ss ρ) n σ' H → Q σ' H) → gNames is vs σ H Q
  | [], [], _, ρ, σ, r, .nil, _, _, _, k => ⟨rfl, k σ r⟩
  | [], _ :: _, _, _, _, _, _, l, _, _, _ => by simp at l
  | _ :: _, [], _, _, _, _, _, l, _, _, _ => by simp at l
  | i :: is, s :: ss, v :: vs, ρ, σ, r, .cons h ni hs, l, no, nw, k => by
    have nw' : NewO n' H' ss vs := by
      cases s <;> cases v <;> first
        | exact nw
        | exact nw.2.2
    refine ⟨v, vs, rfl, names_go (r.putS h ni fun a ds e1 e2 j b hj ow => no 0 a ds j b (by simp [e1]) (by simp [e2]) ow) hs (by simpa using l) (fun i2 a ds j b h1 h2 ow => ?_) nw' k⟩
    obtain ⟨⟨ds', e1⟩, e2⟩ := ow
    by_cases hij : i = j
    · subst hij
      rw [List.getElem?_set] at e1 e2
      split at e1
      · split at e1
        · rename_i hl
          cases e1
          split at e2
          · split at e2
            · injection e2 with e2
              injection e2 with e2
              subst e2
              intro z
              subst z
              exact nw.2.1 i2 ds h1 h2
            · cases e2
          · rename_i z
            exact absurd rfl z
        · cases e1
      · rename_i z
        exact absurd rfl z
    · rw [List.getElem?_set_ne hij] at e1 e2
      exact no (i2 + 1) a ds j b (by simpa using h1) (by simpa using h2) ⟨⟨ds', e1⟩, e2⟩
def dNames (is : List Nat) (fs : GDAs S) : GDS S := fun P ρ n => fs ρ n (fun ss m => ss.length = is.length ∧ is.length ≤ 20 ∧ P.nx (putAll is ss ρ) m) P.ex
theorem LS.names {K : PySem.W.Frag} {TT : List (Addr × Str)} {E : XK} {is : List Nat} {fs : GDAs S} {D : Ends} {σ : L2.St} {H : Hp} (h : LS K TT E (dNames is fs) D σ H) : LAs K TT E fs σ H fun vs H1 => vs.length = is.length ∧ is.length ≤ 20 ∧ ∀ H2, Grow H1 H2 → gNames is vs σ H2 D.nx := by
  obtain ⟨ρ, n, P, rl, q, k⟩ := h
  refine ⟨ρ, n, _, P.ex, rl, q, fun ss m vs H1 z e s nw => ⟨by rw [s.length]; exact z.1, z.2.1, fun H2 g => ?_⟩, k.ex.toE⟩
  have e2 : Fre K TT m H1 m H2 := .grow g
  refine names_go (n' := n) (H' := H) ((rl.fre e).fre e2) (s.fre e2) z.1.symm (fun i a ds j b h1 h2 ow w => ?_) nw fun σ' r => k.nx _ m σ' H2 z.2.2 (e.trans e2).toFra r
  subst w
  obtain ⟨⟨ds', e1⟩, e3⟩ := ow
  obtain ⟨a', xs, hσ, _, hH, hs, _⟩ := rl.owned e1
  rw [e3] at hσ
  cases hσ
  exact nw.at h1 h2 xs hH hs
theorem ds_names2 {i j : Nat} {st : Stmt} {fs : GDAs S} (h : PS X st (tPar i j (LAs X.K TT E fs))) : PS X st (LS X.K TT E (dNames [i, j] fs)) := h.imp fun D σ H q => by
  obtain ⟨ρ, n, P, R, rl, f, k, x⟩ := q.names
  refine ⟨ρ, n, P, R, rl, f, fun ss m vs H1 z e s nw => ?_, x⟩
  obtain ⟨l, _, q⟩ := k ss m vs H1 z e s nw
  have q2 := q H1 (.refl _)
  clear q
  obtain ⟨v, r, rfl, w, r2, rfl, rfl, q⟩ := q2
  exact ⟨v, w, rfl, q⟩
theorem ds_names {is : List Nat} {st : Stmt} {fs : GDAs S} {k0 : Nat} (hk : k0 = is.length) (h : PS X st (tAsg (tTup (LAs X.K TT E fs)) (gTup X.K k0 (gNames is)))) : PS X st (LS X.K TT E (dNames is fs)) := h.imp fun D σ H q => by
  obtain ⟨ρ, n, P, R, rl, f, k, x⟩ := q.names
  refine ⟨ρ, n, P, R, rl, f, fun ss m vs H1 z e s nw => ?_, x⟩
  obtain ⟨l, l2, q⟩ := k ss m vs H1 z e s nw
  refine ⟨by rw [l, sizeLine_eq]; omega, fun p hp => ⟨p, vs, rfl, .inl (.inl upd_same), l.trans hk.symm, q _ (.new hp)⟩⟩
end
end Aim
namespace Aim
open PySem PySem.Spec PyProof.Rows L2
open LamX (TabB Tabs CodeO)
open Stt (cnt sto)
variable {S : Type} [Stt S]
section
variable {X : Cx} {TT : List (Addr × Str)} {E : XK} {e : Expr} {es : List Expr} {f : GDE S} {fr : GDA S} {p : Pos}
def seqOf : Dat → (List Dat → Prop) → Prop
  | .lst ds, P => P ds
  | .tup ds, P => P ds
  | _, _ => False
def dStar (f : GDE S) (fr : GDA S) : GDA S := fun ρ n P R => f ρ n (fun d m => seqOf d fun ds => fr ρ m (fun es j => P (ds ++ es) j) R) R
theorem da_star (h : PE X e (LE X.K TT E f)) (hr : PA X es (LA X.K TT E fr)) (hs : starEach (.Starred e p :: es) X.env = (true, eval e X.env) :: starEach es X.env := by rfl) : PA X (.Starred e p :: es) (LA X.K TT E (dStar f fr)) := (StX.pa_star h hr hs).imp fun σ H Q hq80 => by
  obtain ⟨ρ, n, P, R, r, q, k, x⟩ := hq80
  refine ⟨ρ, n, _, R, r, q, fun d m v H1 z e1 s => ?_, x⟩
  have go : ∃ ds l xs, v = .ref l ∧ (SqT X.K H1 l xs ∨ SqL X.K H1 l xs) ∧ SeesL X.K m H1 xs ds ∧ fr ρ m (fun es j => P (ds ++ es) j) R := by
    unfold seqOf at z
    split at z
    · obtain ⟨l, xs, ev, h1, _, sx⟩ := s.lst_iff
      exact ⟨_, l, xs, ev, .inr h1, sx, z⟩
    · obtain ⟨l, xs, ev, h1, _, sx⟩ := s.tup_iff
      exact ⟨_, l, xs, ev, .inl h1, sx, z⟩
    · exact z.elim
  obtain ⟨ds, l, xs, ev, hs, sx, z⟩ := go
  exact ⟨l, xs, ev, hs, ρ, m, _, R, r.fre e1, z, fun es j ys H2 z2 e2 s2 => k _ j _ H2 z2 (e1.trans e2) ((sx.mono e2.toFra).append s2), x.mono e1⟩
end
def plainSl (ρ : List Sl) : Bool := ρ.all fun
  | .no => true
  | .val _ => true
  | _ => false
theorem plainSl_no {ρ : List Sl} {i : Nat} {s : Sl} (p : plainSl ρ = true) (h : ρ[i]? = some s) : s = .no ∨ ∃ d, s = .val d := by
  have z := List.all_eq_true.mp p s (List.mem_of_getElem? h)
  cases s <;> first | exact .inl rfl | exact .inr ⟨_, rfl⟩ | cases z
theorem Rel.plain {K : PySem.W.Frag} {TT : List (Addr × Str)} {n m : S} {H H' : Hp} {ρ : List Sl} {σ : L2.St} (r : Rel K ρ n σ H) (p : plainSl ρ = true) (f : Fra K TT n H m H') : Rel K ρ m σ H' := r.mono f (fun i a xs hq80 => by
  obtain ⟨⟨ds, e⟩, _⟩ := hq80
  rcases plainSl_no p e with z | ⟨d, z⟩ <;> cases z) fun i C x dx ks ds xs e => by
  rcases plainSl_no p e with z | ⟨d, z⟩ <;> cases z
def compI2 (l l1 : List Nat) (tg : DG) (tt : GDT S) (fi1 : GDI S) (tg1 : DG) (tt1 : GDT S) (fe : GDE S) (ρ : List Sl) (P : List Dat → S → Prop) (ds : List Dat) (m : S) : Prop := ∃ I : Nat → List Dat → S → Prop, I 0 [] m ∧
  (∀ i d acc j, ds[i]? = some d → I i acc j → tg d (wiped ρ l) fun ρ' => plainSl ρ' = true ∧ tt ρ' j (fun b k => if b = true then fi1 ρ' k (fun es k2 => ∃ I1 : Nat → List Dat → S → Prop, I1 0 acc k2 ∧
     (∀ i1 e acc1 j1, es[i1]? = some e → I1 i1 acc1 j1 → tg1 e (wiped ρ' l1) fun ρ2 => tt1 ρ2 j1 (fun b k3 => if b = true then fe ρ2 k3 (fun y z => acc1.length < 1000000 ∧ I1 (i1 + 1) (acc1 ++ [y]) z) R0 else I1 (i1 + 1) acc1 k3) R0) ∧
     ∀ acc1 j1, I1 es.length acc1 j1 → I (i + 1) acc1 j1) R0 else I (i + 1) acc k) R0) ∧ ∀ acc j, I ds.length acc j → P acc j
def dLc2 (fi : GDI S) (l l1 : List Nat) (tg : DG) (tt : GDT S) (fi1 : GDI S) (tg1 : DG) (tt1 : GDT S) (fe : GDE S) : GDA S := fun ρ n P R => fi ρ n (fun ds m => compI2 l l1 tg tt fi1 tg1 tt1 fe ρ P ds m) R
def iHide (t : TI) : TI := fun σ H R => ∃ D xs, H D = some (.lst xs) ∧ t σ (upd H D (OwnO xs D)) fun J H' => H' D = some (OwnO xs D) ∧ R J (upd H' D (.lst xs))
theorem pi_hide {X : Cx} {tg e : Expr} {t : TI} (h : PI X tg e t) : PI X tg e (iHide t) := ⟨fun pins s σ H R I ⟨D, xs, hD, q⟩ => thn (h.run pins s σ _ _ (to_own I hD) q) fun xv s1 hx => thn hx fun itv s2 ⟨it, fp, tn, J, H', e, I2, T, st, f, e1, q'⟩ => ⟨it, fp, tn, J, _, e, of_own I2 e1, T, st, fun b hb => ⟨by
  rw [upd_ne fun z => by have := (f b hb).1; rw [z, e1] at this; cases this]
  exact (f b hb).1, (f b hb).2⟩, q'⟩⟩
def Coll (K : PySem.W.Frag) (TT : List (Addr × Str)) (D : Addr) (m : S) (H1 : Hp) (m' : S) (H' : Hp) (xs : List V) (as : List Dat) : Prop := H' D = some (.lst xs) ∧ xs.length ≤ sizeLine ∧ Fre K TT m H1 m' (upd H' D (OwnO xs D)) ∧ SeesL K m' (upd H' D (OwnO xs D)) xs as ∧ sto m' D = none
section
variable {K : PySem.W.Frag} {TT : List (Addr × Str)} {E : XK} {X : Cx} {D : Addr} {m m' : S} {H1 H' : Hp} {xs : List V} {as : List Dat}
theorem Coll.back (c : Coll K TT D m H1 m' H' xs as) : upd (upd H' D (OwnO xs D)) D (.lst xs) = H' := upd_back c.1
theorem Coll.fra (c : Coll K TT D m H1 m' H' xs as) : Fra K TT m H1 m' H' := by
  have z := c.2.2.1.toFra.trans (Fra.melt (TT := TT) (n := m') (ys := xs) c.2.1 (show upd H' D (OwnO xs D) D = some (OwnO xs D) from upd_same) c.2.2.2.2)
  rw [c.back] at z
  exact z
theorem Coll.grow {H2 : Hp} (c : Coll K TT D m H1 m' H' xs as) (g : Grow H' H2) : Coll K TT D m H1 m' H2 xs as ∧ Grow (upd H' D (OwnO xs D)) (upd H2 D (OwnO xs D)) := by
  have gr : Grow (upd H' D (OwnO xs D)) (upd H2 D (OwnO xs D)) := fun b o w => by
    by_cases hb : b = D
    · subst hb
      rw [upd_same] at w ⊢
      exact w
    · rw [upd_ne hb] at w ⊢
      exact g b o w
  exact ⟨⟨g _ _ c.1, c.2.1, c.2.2.1.trans (.grow gr), c.2.2.2.1.grow gr, c.2.2.2.2⟩, gr⟩
theorem Coll.step {m2 : S} {H2 : Hp} (c : Coll K TT D m H1 m' H' xs as) (e : Fre K TT m' (upd H' D (OwnO xs D)) m2 H2) : H2 D = some (OwnO xs D) ∧ upd (upd H2 D (.lst xs)) D (OwnO xs D) = H2 ∧ Coll K TT D m H1 m2 (upd H2 D (.lst xs)) xs as := by
  have o : H2 D = some (OwnO xs D) := (e.own _ _ upd_same c.2.2.2.2).1
  have b : upd (upd H2 D (.lst xs)) D (OwnO xs D) = H2 := upd_back o
  exact ⟨o, b, upd_same, c.2.1, by rw [b]; exact c.2.2.1.trans e, by rw [b]; exact c.2.2.2.1.mono e.toFra, (e.own _ _ upd_same c.2.2.2.2).2⟩
theorem Coll.push {y : V} {d : Dat} (c : Coll K TT D m H1 m' H' xs as) (hD : H1 D = none) (l : xs.length + 1 ≤ sizeLine) (s : Sees K m' (upd H' D (OwnO xs D)) y d) : Coll K TT D m H1 m' (upd H' D (.lst (xs ++ [y]))) (xs ++ [y]) (as ++ [d]) := by
  have eq : upd (upd H' D (.lst (xs ++ [y]))) D (OwnO (xs ++ [y]) D) = upd (upd H' D (OwnO xs D)) D (OwnO (xs ++ [y]) D) := by rw [upd_upd, upd_upd]
  have fo : Fra K TT m' (upd H' D (OwnO xs D)) m' (upd (upd H' D (OwnO xs D)) D (OwnO (xs ++ [y]) D)) := .own upd_same c.2.2.2.2
  refine ⟨upd_same, by rw [List.length_append, List.length_singleton]; exact l, ?_, ?_, c.2.2.2.2⟩
  · rw [eq]
    refine ⟨c.2.2.1.toFra.trans fo, fun b ys w ws => ?_⟩
    have bD : b ≠ D := fun z => by rw [z, hD] at w; cases w
    rw [upd_ne bD]
    exact c.2.2.1.own b ys w ws
  · rw [eq]
    exact (c.2.2.2.1.mono fo).append (.cons (s.mono fo) .nil)
theorem comp2_of {l l1 : List Nat} {tg tg1 : DG} {tt tt1 : GDT S} {fe : GDE S} {fi fi1 : GDI S} {ρ : List Sl} {P : List Dat → S → Prop} {σ : L2.St} {H : Hp} {vs vs1 : List Nat} {Q : VK} (hl : ∀ i ∈ vs, i ∈ l) (hl1 : ∀ i ∈ vs1, i ∈ l1) (h : LF K TT E (dLc2 fi l l1 tg tt fi1 tg1 tt1 fe) σ H Q) :
    tLc2 (LI K TT E fi) (gHide (LG (S := S) K vs tg)) (tHideT (LTs K TT E0 tt)) (iHide (LI K TT E0 fi1)) (gHide (LG (S := S) K vs1 tg1)) (tHideT (LTs K TT E0 tt1)) (tHide (LE K TT E0 fe)) l l1 σ H Q := by
  obtain ⟨ρ, n, P, R, r, f, k, x⟩ := h
  refine ⟨ρ, n, _, R, r, f, fun ds m J H1 q e it D hD => ?_, x⟩
  obtain ⟨I, i0, st, dn⟩ := q
  have tab1 := e.tab x.tab
  have r1 := r.fre e
  have hD0 : ∀ {sh : Shp} (ys : List V), H D = some (OwnS sh ys D) → sto n D ≠ none := fun ys w ws => by rw [(e.own D ys w ws).1] at hD; cases hD
  have sD : sto m D = none := r1.st.free hD
  have c0 : Coll K TT D m H1 m (upd H1 D (.lst [])) [] [] := ⟨upd_same, Nat.zero_le _, by rw [upd_upd]; exact .grow (.new hD), .nil, sD⟩
  refine ⟨fun i j H' => j = ds.length - i ∧ i ≤ ds.length ∧ ∃ m' xs as, Coll K TT D m H1 m' H' xs as ∧ I i as m', ⟨ds.length, by simp, Nat.zero_le _, m, [], [], c0, i0⟩, ?_⟩
  rintro i j H' ⟨rfl, hi, m', xs, as, c, hI⟩
  by_cases hlt : ¬ i < ds.length
  · have e2 : i = ds.length := by omega
    subst e2
    exact .inl ⟨it.stops _ _ c.fra, k as m' xs D H' (dn _ _ hI) hD0 c.1 c.2.1 c.2.2.2.2 (e.trans c.2.2.1) c.2.2.2.1⟩
  have hlt := Decidable.not_not.mp hlt
  have hs := st i _ as m' (List.getElem?_eq_getElem hlt) hI
  refine .inr ⟨it.goes i _ _ hlt c.fra, fun H2 => ∃ m2 ys bs, Coll K TT D m H1 m2 H2 ys bs ∧ I (i + 1) bs m2, fun H2 z => ⟨ds.length - (i + 1), by omega, rfl, hlt, z⟩, fun x H2 y => ?_⟩
  obtain ⟨gr, sx2⟩ := it.yields i m' H' x H2 _ (List.getElem?_eq_getElem hlt) c.fra y
  obtain ⟨c2, gr2⟩ := c.grow gr
  have sx3 := sx2 _ c2.2.2.1.toFra fun b o w1 w2 => by
    rw [upd_ne fun z => by rw [z, c.1] at w2; cases w2]
    exact w1
  refine ⟨D, xs, c2.1, _, m', _, _, (r1.fre c2.2.2.1).wipe l, sx3, hs, fun ρ3 σ3 q3 r3 w3 => ⟨upd_same, ?_⟩⟩
  rw [c2.back]
  obtain ⟨pl, q3⟩ := q3
  refine ⟨(w3 l hl).trans (wipe_wipe σ l), D, xs, c2.1, ρ3, m', _, _, r3, q3, fun b m3 H3 q4 e3 => ?_, .zero (c2.2.2.1.tab tab1)⟩
  obtain ⟨o3, b3, c3⟩ := c2.step e3
  refine ⟨o3, ?_⟩
  cases b with
  | false => exact ⟨m3, xs, as, c3, q4⟩
  | true =>
    have q4 : fi1 ρ3 m3 _ _ := q4
    refine ⟨D, xs, upd_same, ?_⟩
    rw [b3]
    refine ⟨ρ3, m3, _, _, r3.fre e3, q4, fun es m4 J1 H4 q5 e4 it1 => ?_, .zero ((c2.2.2.1.trans e3).tab tab1)⟩
    obtain ⟨I1, j0, st1, dn1⟩ := q5
    have c3' : Coll K TT D m H1 m3 (upd H3 D (.lst xs)) xs as := c3
    have e4' : Fre K TT m3 (upd (upd H3 D (.lst xs)) D (OwnO xs D)) m4 H4 := by rw [b3]; exact e4
    obtain ⟨o4, b4, c4⟩ := c3'.step e4'
    have r4 := (r3.fre e3).fre e4
    refine ⟨o4, fun j1 k1 H' => k1 = es.length - j1 ∧ j1 ≤ es.length ∧ ∃ m' xs as, Coll K TT D m H1 m' H' xs as ∧ Fra K TT m4 H4 m' (upd H' D (OwnO xs D)) ∧ I1 j1 as m', ⟨es.length, by simp, Nat.zero_le _, m4, xs, as, c4, by rw [b4]; exact .refl, j0⟩, ?_⟩
    rintro j1 k1 H5 ⟨rfl, hj, m5, zs, bs, c5, f5, hI1⟩
    have melt5 : Fra K TT m4 H4 m5 H5 := by
      have z := f5.trans (Fra.melt (TT := TT) (n := m5) (ys := zs) c5.2.1 (show upd H5 D (OwnO zs D) D = some (OwnO zs D) from upd_same) c5.2.2.2.2)
      rw [c5.back] at z
      exact z
    by_cases hlt1 : ¬ j1 < es.length
    · have e2 : j1 = es.length := by omega
      subst e2
      exact .inl ⟨it1.stops _ _ melt5, m5, zs, bs, c5, dn1 _ _ hI1⟩
    have hlt1 := Decidable.not_not.mp hlt1
    have hs1 := st1 j1 _ bs m5 (List.getElem?_eq_getElem hlt1) hI1
    refine .inr ⟨it1.goes j1 _ _ hlt1 melt5, fun H6 => ∃ m2 ys as, Coll K TT D m H1 m2 H6 ys as ∧ Fra K TT m4 H4 m2 (upd H6 D (OwnO ys D)) ∧ I1 (j1 + 1) as m2, fun H6 z => ⟨es.length - (j1 + 1), by omega, rfl, hlt1, z⟩, fun x6 H6 y6 => ?_⟩
    obtain ⟨gr6, sx6⟩ := it1.yields j1 m5 H5 x6 H6 _ (List.getElem?_eq_getElem hlt1) melt5 y6
    obtain ⟨c6, gro6⟩ := c5.grow gr6
    have f6 : Fra K TT m4 H4 m5 (upd H6 D (OwnO zs D)) := f5.trans (.grow gro6)
    have sx7 := sx6 _ f6 fun b o w1 w2 => by
      rw [upd_ne fun z => by rw [z, c5.1] at w2; cases w2]
      exact w1
    refine ⟨D, zs, c6.1, _, m5, _, _, (r4.plain pl f6).wipe l1, sx7, hs1, fun ρ7 σ7 q7 r7 w7 => ⟨upd_same, ?_⟩⟩
    rw [c6.back]
    refine ⟨(w7 l1 hl1).trans (wipe_wipe σ3 l1), D, zs, c6.1, ρ7, m5, _, _, r7, q7, fun b m8 H8 q8 e8 => ?_, .zero (c6.2.2.1.tab tab1)⟩
    obtain ⟨o8, b8, c8⟩ := c6.step e8
    have f8 : Fra K TT m4 H4 m8 H8 := f6.trans e8.toFra
    refine ⟨o8, ?_⟩
    cases b with
    | false => exact ⟨m8, zs, bs, c8, by rw [b8]; exact f8, q8⟩
    | true =>
      have q8 : fe ρ7 m8 _ _ := q8
      refine ⟨D, zs, upd_same, ?_⟩
      rw [b8]
      refine ⟨ρ7, m8, _, _, r7.fre e8, q8, fun d9 m9 v9 H9 q9 e9 s9 => ?_, .zero ((c6.2.2.1.trans e8).tab tab1)⟩
      have e9' : Fre K TT m8 (upd (upd H8 D (.lst zs)) D (OwnO zs D)) m9 H9 := by rw [b8]; exact e9
      obtain ⟨o9, b9, c9⟩ := c8.step e9'
      have lz : zs.length + 1 ≤ sizeLine := by
        have h1 := c9.2.2.2.1.length
        have h2 := q9.1
        rw [sizeLine_eq]
        omega
      have c10 := c9.push (y := v9) (d := d9) hD lz (by rw [b9]; exact s9)
      refine ⟨o9, zs, upd_same, by omega, m9, zs ++ [v9], bs ++ [d9], c10, ?_, q9.2⟩
      have eq : upd (upd (upd H9 D (.lst zs)) D (.lst (zs ++ [v9]))) D (OwnO (zs ++ [v9]) D) = upd H9 D (OwnO (zs ++ [v9]) D) := by rw [upd_upd, upd_upd]
      rw [eq]
      exact (f8.trans e9.toFra).trans (.own o9 c9.2.2.2.2)
variable {e elt tg iter tg1 iter1 : Expr} {st : Stmt} {pos spos : Pos}
theorem st_lc2 {i : Nat} {y : Str} {py : Pos} {ifs ifs1 : List Expr} {scope : Scope} {own : List (Str × Nat)} {l1 : List Nat} {fi fi1 : GDI S} {vs vs1 : List Nat} {g g1 : DG} {tt tt1 : GDT S} {fe : GDE S} (hc : X.calm = true) (hN : X.N.Nodup) (hy : X.N[i]? = some y) (hyl : X.env.scope.names.lookup y = some .local)
    (hsw : swapsWith (.ListComp elt [⟨tg, iter, ifs, 0⟩, ⟨tg1, iter1, ifs1, 0⟩] scope pos) (some (.Name y py)) spos.line X.env = pure true) (hi : PI X tg iter (LI K TT E fi)) (ok : BlkOk X.N X.env.scope scope own) (hv : ∀ i ∈ l1, i ∈ own.map (·.2))
    (hg : ∀ (s : Shared) (H : Hp) (C : Addr) (cl : List (Str × Addr)) (fp : List Addr), PG (X.blk s H scope (compEnvC scope cl C X.env) fp) tg (LG (S := S) K vs g)) (ht : ∀ (s : Shared) (H : Hp) (C : Addr) (cl : List (Str × Addr)) (fp : List Addr), PTs (X.blk s H scope (compEnvC scope cl C X.env) fp) ifs (LTs K TT E0 tt))
    (hi1 : ∀ (s : Shared) (H : Hp) (C : Addr) (cl : List (Str × Addr)) (fp : List Addr), PI (X.blk s H scope (compEnvC scope cl C X.env) fp) tg1 iter1 (LI K TT E0 fi1))
    (hg1 : ∀ (s : Shared) (H : Hp) (C : Addr) (cl : List (Str × Addr)) (fp : List Addr), PG (X.blk s H scope (compEnvC scope cl C X.env) fp) tg1 (LG (S := S) K vs1 g1)) (ht1 : ∀ (s : Shared) (H : Hp) (C : Addr) (cl : List (Str × Addr)) (fp : List Addr), PTs (X.blk s H scope (compEnvC scope cl C X.env) fp) ifs1 (LTs K TT E0 tt1))
    (he : ∀ (s : Shared) (H : Hp) (C : Addr) (cl : List (Str × Addr)) (fp : List Addr), PE (X.blk s H scope (compEnvC scope cl C X.env) fp) elt (LE K TT E0 fe)) (hl : ∀ i ∈ vs, i ∈ own.map (·.2) := by simp) (hl1 : ∀ i ∈ vs1, i ∈ l1 := by simp) (hs : ∀ x, foldedSetIterable iter X.env x = pure x := by intro _; rfl) (hs1 : ∀ env x, foldedSetIterable iter1 env x = pure x := by intro _ _; rfl) :
    PS X (.Assign [.Name y py] (.ListComp elt [⟨tg, iter, ifs, 0⟩, ⟨tg1, iter1, ifs1, 0⟩] scope pos) spos) (tAsg (LF K TT E (dLc2 fi (own.map (·.2)) l1 g tt fi1 g1 tt1 fe)) (gName i)) :=
  (ps_setLc2 hc hN hy hyl hsw hi ok hv (fun s H C cl fp => pg_hide (hg s H C cl fp)) (fun s H C cl fp => pts_hide (ht s H C cl fp)) (fun s H C cl fp => pi_hide (hi1 s H C cl fp)) (fun s H C cl fp => pg_hide (hg1 s H C cl fp)) (fun s H C cl fp => pts_hide (ht1 s H C cl fp)) (fun s H C cl fp => pe_hide (he s H C cl fp)) hs hs1).imp fun D σ H h => by
    have h : LF K TT E _ σ H (fun x H1 => gName i x σ H1 D.nx) := h
    exact comp2_of (ρ := []) (P := fun _ _ => True) hl hl1 h
end
structure Prp (K : PySem.W.Frag) (C : Addr) (nm fld qual : Str) (st : Stmt) : Prop where
  ex : ∃ (p g : Addr) (fd : FuncData), PropOf K C nm p g ∧ L2.Fun K nm qual st g fd ∧ NoAttr K C fld
section
variable {X : Cx} {TT : List (Addr × Str)} {E : XK} {C : Addr} {nm fld qual : Str} {st : Stmt} {e : Expr} {f : GDE S} {pos : Pos} {j : Nat}
theorem de_prp (W : Prp X.K C nm fld qual st) (cl : Cls X.K C) (hr : Room j X.A) (S : FnScope ["self"] ["self"] (defScope st)) (hb : ∃ p1 p2 p3, defBody st = [.Return (some (.Attribute (.Name "self" p1) fld p2)) p3])
    (hbi : ∀ (kV doc pm : Value) (an : Option Addr) (cdv ct : Value) (us : List Value), us.length = 1 → bindArgs (PySem.W.fnOf nm qual (defArgs st) (defBody st) (defScope st) .none kV doc pm an cdv ct) ⟨us, []⟩ = pure ((["self"] : List Str).zip us)) (he : PE X e (LE X.K TT E f)) (hj : 2 ≤ j := by first | decide | omega) (hab : attributeBase e nm X.env (eval e X.env) = eval e X.env := by rfl) : PE X (.Attribute e nm pos) (LE X.K TT E (dUn (gFld C fld) f)) := by
  obtain ⟨p, g, fd, hp, F, n⟩ := W.ex
  obtain ⟨p1, p2, p3, hb⟩ := hb
  obtain ⟨oc, od, kV, doc, pm, an, cdv, ct, osl, e1, lk, hcd⟩ := id F.ex
  subst e1
  have G : FnOk X.prog X.w X.K X.mg X.base (L2.CX X.prog X.w) 1 g _ ["self"] (getSp C fld) := fn_getter lk hcd S rfl hb cl n
  refine (pe_prop (pos := pos) (E := E0) he cl hp G (hr.mono hj) (F.binds hbi) .nil (fun _ _ _ _ _ _ _ h => (passL (X := X.nox)) _ _ _ _ _ _ (by assumption) h) hab).imp fun σ H Q hz7 => ex8 hz7 fun ρ n P R r q k x => ⟨ρ, n, _, R, r, q, fun d m v H1 z e s => ?_, x⟩
  unfold gFld at z
  split at z
  · obtain ⟨rfl, z⟩ := z
    obtain ⟨d', hd, z⟩ := optD_of z
    cases s with
    | obj h1 h2 h3 =>
      obtain ⟨v, hv, sv⟩ := lookup_sees h3 hd
      exact ⟨_, _, _, rfl, h1, _, _, _, v, rfl, h1, hv, k _ m _ H1 z e sv⟩
  · exact z.elim
end
end Aim
namespace Aim
open PySem PySem.Spec PyProof.Rows L2
open LamX (TabB Tabs CodeO)
open Stt (cnt sto)
variable {S : Type} [Stt S]
structure HasA (K : PySem.W.Frag) (mg : Str → Option Value) (y x : Str) (st : Stmt) : Prop where
  ex : ∃ (f : Addr) (fd : FuncData), L2.Fun K x x st f fd ∧ mg y = some (.ref f)
theorem hasA_mk {K : PySem.W.Frag} {mg : Str → Option Value} {h : Heap} (X : K.In h) (G : h.Ns mainGlobals mg) {y x : Str} {st : Stmt} {f : Addr} {oc kV doc pm cd ct : Value} {od an : Option Addr} {osl : Array (Option Value)} (a : PySem.W.nsIn K mainGlobals y = some (some (.ref f)))
    (l : K.lookup f = some ⟨oc, od, .func (PySem.W.fnOf x x (defArgs st) (defBody st) (defScope st) .none kV doc pm an cd ct), osl⟩) (c : PySem.W.codeIn K cd x = true) (k : PySem.W.keepIn K (.ref f) = true) : HasA K mg y x st :=
  ⟨f, _, fun_mk (st := st) l c k, PySem.W.mg_of X G a⟩
section
variable {P : Program} {w : World} {K : PySem.W.Frag} {mg : Str → Option Value} {base : Heap} {TT : List (Addr × Str)} {G : Bool} {x y : Str} {st : Stmt} {N ps : List Str} {k : Nat} {sp : GDSp S}
theorem dat_okA (F : HasA K mg y x st) (hb : ∀ f fd, L2.Fun K x x st f fd → L2.Binds K fd ps []) (S : FnScope N ps (defScope st))
    (body : ∀ (f : Addr) (cdv : Value) (A : Around) (outer : List Env) (s : Shared) (H : Hp) (E : XK), Room k (A.deeper (envOfC x (defScope st) s.heap.objs.size f cdv)) → (G = true → A.guards = some []) →
      ∃ g, PSs (cxOf (L2.CX P w) P w K mg base N x (defScope st) f cdv A outer s H E).nox (defBody st) (LS K TT E0 g) ∧ ∀ ds n PP R, sp ds n PP R → ds.length = ps.length ∧ g { nx := fun _ m => PP .non m, rt := PP, ex := R0 } (dstart N ds) n)
    (hl : ∀ ds n PP R, sp ds n PP R → ds.length = ps.length) : Df P w K mg base G (k + 1) y (LSp K TT sp) := by
  obtain ⟨f, fd, F, hm⟩ := F.ex
  have hb := hb f fd F
  have hkp := F.kp
  obtain ⟨oc, od, kV, doc, pm, an, cdv, ct, osl, rfl, lk, hcd⟩ := F.ex
  have len : ∀ vs H Q E, LSp K TT sp vs H Q E → vs.length = ps.length := fun vs H Q E h => by
    obtain ⟨ds, n, PP, R, s, h, _⟩ := h
    rw [s.length]
    exact hl _ _ _ _ h
  refine ⟨f, _, ps, ⟨len, fun {A fr s H args us vs Q E} hr hg e0 b r q => LamX.run_ofS lk hcd S hr e0 b r (len _ _ _ _ q) fun hr' => ?_⟩, hm, hkp, hb⟩
  obtain ⟨g, hp, z⟩ := body f cdv _ _ _ _ _ hr' hg
  obtain ⟨ds, n, PP, R, se, h, kQ, kE, kS⟩ := q
  exact ⟨_, hp.nox, ends_of se (z ds n PP R h).2 kQ (.zero kE.tab) kS⟩
structure MkH (K : PySem.W.Frag) (C : Addr) (qual : Str) (st : Stmt) : Prop where
  ex : ∃ (f : Addr) (fd : FuncData), L2.Fun K "__init__" qual st f fd ∧ Mk K C f
theorem ini_ok {qual : Str} {C : Addr} (F : MkH K C qual st) (hb : ∀ (kV doc pm : Value) (an : Option Addr) (cdv ct : Value) (us : List Value), us.length = ps.length → bindArgs (PySem.W.fnOf "__init__" qual (defArgs st) (defBody st) (defScope st) .none kV doc pm an cdv ct) ⟨us, []⟩ = pure (ps.zip us)) (S : FnScope N ps (defScope st)) (hN : 0 < N.length)
    (body : ∀ (f : Addr) (cdv : Value) (A : Around) (outer : List Env) (s : Shared) (H : Hp) (E : XK), Room k (A.deeper (envOfC qual (defScope st) s.heap.objs.size f cdv)) →
      ∃ g, PSs (cxOf (L2.CX P w) P w K mg base N qual (defScope st) f cdv A outer s H E) (defBody st) (LS K TT E g) ∧ ∀ x ds n PP R, sp ds n PP R → g { nx := fun ρ' m => insOf (slAt ρ' 0) fun a C' ks es => a = x ∧ C' = C ∧ PP (.obj C ks es) m, rt := fun _ _ => False, ex := R } ((dstart N (.non :: ds)).set 0 (.ins x C [] [])) n)
    (hl : ∀ ds n PP R, sp ds n PP R → ds.length + 1 = ps.length) : DfI P w K mg base TT (k + 1) C sp := by
  obtain ⟨f, fd, F, M⟩ := F.ex
  have hbb := F.binds hb
  obtain ⟨oc, od, kV, doc, pm, an, cdv, ct, osl, rfl, lk, hcd⟩ := F.ex
  exact ⟨f, _, ps, rn_init lk hcd S hN (fun A outer s H E hr => body f cdv A outer s H E hr) hl, M, hbb⟩
end
section
variable {K : PySem.W.Frag} {TT : List (Addr × Str)} {E : XK} {X : Cx} {e : Expr} {n m : Nat} {H H1 : Hp} {ρ : List Sl} {σ : L2.St} {i : Nat} {a : Addr} {xs : List V} {ds : List Dat}
theorem bor_rel (rl : Rel K ρ n σ H) (hρ : ρ[i]? = some (.own ds)) (hσ : σ[i]? = some (some (.ref a))) (l : xs.length ≤ sizeLine) (hH : H a = some (OwnO xs a)) (sx : SeesL K n H xs ds) : Rel K (ρ.set i (.val (.lst ds))) n σ (upd H a (.lst xs)) := by
  have fm : Fra K [] n H n (upd H a (.lst xs)) := .melt l hH rfl
  have me : Owns ρ σ i a := ⟨⟨ds, hρ⟩, hσ⟩
  have z := (Rel.drop (i := i) (o := none) rl).mono fm (k2 := fun i C x dx ks ds zs _ hx hd s1 s2 => ⟨⟨not_makes hH l hd, not_hid hH hx⟩, s1, s2⟩) fun j b zs ow lz eb sb => ⟨by
    rw [upd_ne]
    intro w
    subst w
    obtain ⟨⟨ds', e1⟩, e2⟩ := ow
    by_cases hij : i = j
    · subst hij
      rw [List.getElem?_set] at e1
      split at e1
      · split at e1 <;> cases e1
      · rename_i w
        exact w rfl
    · rw [List.getElem?_set_ne hij] at e1 e2
      exact rl.ap i j b b hij me ⟨⟨ds', e1⟩, e2⟩ rfl, sb⟩
  have w := z.put (i := i) (Sees.lstOf (K := K) (n := n) (H := upd H a (.lst xs)) upd_same l (sx.mono fm))
  simp only [List.set_set] at w
  rw [(rl.here hρ hσ).2] at w
  exact w
theorem bor_fre (l : xs.length ≤ sizeLine) (hH : H a = some (OwnO xs a)) (e1 : Fre K TT n (upd H a (.lst xs)) m H1) : H1 a = some (.lst xs) ∧ Fre K TT n H m (upd H1 a (OwnO xs a)) := by
  have fm : Fra K TT n H n (upd H a (.lst xs)) := .melt l hH rfl
  have ha : H1 a = some (.lst xs) := e1.keep _ _ upd_same (perm_ext (fun _ z => nomatch z) fun _ z => nomatch z)
  refine ⟨ha, ⟨⟨⟨e1.le, fun b o eb p => ?_, fun b j lj eb => ?_⟩, fun t => ?_, fun _ => .nat⟩, fun b ys eb _ => ⟨?_, rfl⟩⟩⟩
  · have hb := own_perm l hH eb p
    rw [upd_ne hb]
    exact e1.keep b o (by rw [upd_ne hb]; exact eb) p
  · have hb : b ≠ a := fun z => by
      subst z
      rw [hH] at eb
      exact own_pot (Option.some.inj eb)
    obtain ⟨i, h1, h2⟩ := e1.pot b j lj (by rw [upd_ne hb]; exact eb)
    exact ⟨i, h1, by rw [upd_ne hb]; exact h2⟩
  · refine tabs_map2 (e1.tab (fm.tab t)) fun b o w kind => ?_
    rw [upd_ne fun z => ?_]
    · exact w
    · subst z
      rw [ha] at w
      cases w
      rcases kind with ⟨ps, z⟩ | ⟨q, z⟩
      · cases z
      · unfold CodeO at z
        cases z
  · by_cases hb : b = a
    · subst hb
      rw [hH] at eb
      rw [upd_same]
      exact eb
    · rw [upd_ne hb]
      exact (e1.own b ys (by rw [upd_ne hb]; exact eb) rfl).1
def dBorT (i : Nat) (f : DT) : DT := fun ρ n P _ => ownOf (slAt ρ i) fun ds => f (ρ.set i (.val (.lst ds))) n P R0
theorem dt_bor {f : DT} (h : PT X e (LTs K TT E f)) : PT X e (LTs K TT E (dBorT i f)) := ⟨fun pins s σ H Q I hq80 => by
  obtain ⟨ρ, n, P, R, rl, q, k, x⟩ := hq80
  obtain ⟨ds, hρ, q⟩ := ownOf_of q
  obtain ⟨a, xs, hσ, l, hH, hs, sx⟩ := rl.owned hρ
  have fm : Fra K TT n H n (upd H a (.lst xs)) := .melt l hH rfl
  exact thn (h.run pins s σ (upd H a (.lst xs)) (fun v H1 => H1 a = some (.lst xs) ∧ Q v (upd H1 a (OwnO xs a))) (of_own I hH) ⟨_, n, _, R0, bor_rel rl hρ hσ l hH sx, q, fun d m H1 q1 e1 => ⟨(bor_fre l hH e1).1, k d m _ q1 (bor_fre l hH e1).2⟩, .zero (fm.tab x.tab)⟩) fun u s1 ⟨H1, J, ha, q1⟩ => ⟨_, to_own J ha, q1⟩⟩
end
end Aim
namespace Aim
open PySem PySem.Spec PyProof.Rows L2
open LamX (TabB)
def top (i : Nat) : Stmt := PySem.Challenge.pw_aimedpresses_k11_aims_and_bytes_refused.main.body.getD i (.Pass ⟨0, 0, 0, 0⟩)
section
variable {P : Program} {w : World} {K : PySem.W.Frag} {mg : Str → Option Value} {base : Heap} {TT : List (Addr × Str)}
theorem at_four {a b c d i m : Int} (i0 : 0 ≤ i) (i1 : i < 4) (ha : 0 < a ∧ a ≤ m) (hb : 0 < b ∧ b ≤ m) (hc : 0 < c ∧ c ≤ m) (hd : 0 < d ∧ d ≤ m) : ∃ z : Int, atI [Dat.int a, Dat.int b, Dat.int c, Dat.int d] i = some (.int z) ∧ 0 < z ∧ z ≤ m := by
  have h : i = 0 ∨ i = 1 ∨ i = 2 ∨ i = 3 := by omega
  rcases h with h | h | h | h <;> subst h
  · exact ⟨a, rfl, ha⟩
  · exact ⟨b, rfl, hb⟩
  · exact ⟨c, rfl, hc⟩
  · exact ⟨d, rfl, hd⟩
theorem log2_62 {z : Int} (z0 : 0 < z) (z1 : z < 2 ^ 300) : z.natAbs.log2 < 9000 := by
  have h : z.natAbs < 2 ^ 300 := by omega
  exact Nat.lt_trans (Nat.log2_lt (by omega) |>.mpr h) (by decide)
theorem mulW_of {i j : Int} (hi : i.natAbs < 2 ^ 200) (hj : j.natAbs < 2 ^ 200) : CMulA i j := .inr (wide_mul hi hj (by decide) (by decide) (by decide))
def spTake : DSp := fun ds n Q _ => ∃ z : Int, ds = [.pot, .int z] ∧ n < 1000000 ∧ 0 < z ∧ z < 2 ^ 300 ∧ ∀ r : Int, 0 ≤ r → r < z → Q (.int r) (n + 1)
theorem sc__law_take : FnScope ["_law_pot_here", "_law_size", "_law_turn", "_law_prime", "_law_mixed", "_law_spread", "_law_digit"] ["_law_pot_here", "_law_size"] (defScope (top 65)) := ⟨rfl, rfl, rfl, by decide +kernel, rfl, by decide +kernel, by decide +kernel⟩
theorem ok_take {G : Bool} (F : Has K mg "_law_take" (top 65)) (T : Blt mg) : Df P w K mg base G 1 "_law_take" (LSp K TT spTake) := by
  refine dat_ok F (fun f fd F => F.binds (fun _ _ _ _ _ _ us hl => by obtain ⟨x0, x1, rfl⟩ := us2 hl; rfl)) sc__law_take (fun f cdv A outer s H E hr hG => ⟨_, (dss_cons (ds_if (dt_cmp op_gt (od_IB _) (de_ixPot (pe_ix ix_pot (de_var (pv 0)) de_int (fun _ _ => rfl))) de_int (nomark _)) (dss_cons (ds_set (i := 6) sc__law_take.nd rfl (Or.inl rfl) (de_op op_mod (od_IC _) (de_cb cd_int (pe_callTy call_intA rfl T.n_int boot_int (da_cons (de_ixPot (pe_ix ix_pot (de_var (pv 0)) de_int (fun _ _ => rfl))) da_nil))) (de_var (pv 1))))
      (dss_cons (ds_setPot (ps_asg (de_op op_fdivW (od_IC _) (de_cb cd_int (pe_callTy call_intA rfl T.n_int boot_int (da_cons (de_ixPot (pe_ix ix_pot (de_var (pv 0)) de_int (fun _ _ => rfl))) da_nil))) (de_var (pv 1))) (pg_sub (de_var (pv 0)) de_int set_pot)))
      (dss_one (ds_ret (de_var (pv 6)))))) dss_nil)
      (dss_cons (ds_set (i := 2) sc__law_take.nd rfl (Or.inl rfl) (de_op op_addAny od_add (de_ixPot (pe_ix ix_pot (de_var (pv 0)) de_int (fun _ _ => rfl))) de_int))
      (dss_cons (ds_setPot (ps_asg (de_var (pv 2)) (pg_sub (de_var (pv 0)) de_int set_pot)))
      (dss_cons (ds_set (i := 3) sc__law_take.nd rfl (Or.inl rfl) (de_ix ix_seq od_ix (de_lst (da_cons de_int (da_cons de_int (da_cons de_int (da_cons de_int da_nil))))) (de_op op_mod (od_IC _) (de_cb cd_int (pe_callTy call_intA rfl T.n_int boot_int (da_cons (de_var (pv 2)) da_nil))) de_int) (fun _ _ => rfl)))
      (dss_cons (ds_set (i := 4) sc__law_take.nd rfl (Or.inl rfl) (de_op op_mod (od_IC _) (de_cb cd_int (pe_callTy call_intA rfl T.n_int boot_int (da_cons (de_op op_powW (od_IC _) (de_cb cd_int (pe_callTy call_intA rfl T.n_int boot_int (da_cons (de_op op_addAny od_add (de_op op_addAny od_add (de_ixPot (pe_ix ix_pot (de_var (pv 0)) de_int (fun _ _ => rfl))) (de_op op_mulA od_mulA (de_op op_mulA od_mulA de_int (de_var (pv 2))) (de_var (pv 2)))) (de_op op_mulA od_mulA de_int (de_var (pv 2)))) da_nil))) de_int) da_nil))) (de_var (pv 3))))
      (dss_cons (ds_set (i := 5) sc__law_take.nd rfl (Or.inl rfl) (de_op op_mod (od_IC _) (de_cb cd_int (pe_callTy call_intA rfl T.n_int boot_int (da_cons (de_op op_mulA od_mulA (de_var (pv 4)) (de_op op_addAny od_add (de_op op_mod (od_IC _) (de_cb cd_int (pe_callTy call_intA rfl T.n_int boot_int (da_cons (de_var (pv 4)) da_nil))) de_int) (de_op op_mulA od_mulA de_int (de_var (pv 2))))) da_nil))) de_int))
      (dss_one (ds_ret (de_op op_mod (od_IC _) (de_cb cd_int (pe_callTy call_intA rfl T.n_int boot_int (da_cons (de_op op_fdivW (od_IC _) (de_var (pv 5)) de_int) da_nil))) (de_var (pv 1))))))))))), fun ds n PP R h => ?_⟩) (fun ds n PP R h => ?_)
  · obtain ⟨z, rfl, hn, z0, z1, k⟩ := h
    refine ⟨rfl, ?_⟩
    refine Or.inl ⟨rfl, fun d d0 => ?_⟩
    refine ite2 (fun c => ?_) (fun c => ?_)
    · refine Or.inl ⟨rfl, fun d2 e2 => ?_⟩
      refine ⟨z0, ?_⟩
      refine Or.inl ⟨rfl, fun d3 e3 => ?_⟩
      refine ⟨⟨z0, log2_62 z0 z1⟩, ?_⟩
      refine Or.inl ⟨rfl, Int.ediv_nonneg e3 (Int.le_of_lt z0), ?_⟩
      exact k (d2 % z) (Int.emod_nonneg _ (by omega)) (Int.emod_lt_of_pos _ z0)
    · refine Or.inr (Or.inr ⟨rfl, fun t t0 t1 => ?_⟩)
      have t1 : t ≤ ((n : Nat) : Int) := t1
      refine Or.inr ⟨rfl, by omega, (by show t + 1 ≤ ((n : Nat) : Int) + 1; omega), ?_⟩
      obtain ⟨pr, hpr, pr0, pr1⟩ := at_four (i := (t + 1) % 4) (a := 2305843009213693951) (b := 2305843009213693921) (c := 2305843009213693907) (d := 67280421310721) (Int.emod_nonneg _ (by decide)) (Int.emod_lt_of_pos _ (by decide)) (m := 2 ^ 61) (by decide) (by decide) (by decide) (by decide)
      refine ⟨by show 4 ≤ sizeLine; decide, ?_⟩
      refine ⟨(by decide : (0 : Int) < 4), ?_⟩
      show optD (atI _ _) _
      rw [hpr]
      refine Or.inr (Or.inl ⟨rfl, fun m m0 m1 => ?_⟩)
      have tt : (t + 1) * (t + 1) ≤ 1000001 * 1000001 := Int.mul_le_mul (by omega) (by omega) (by omega) (by omega)
      have tt0 : 0 ≤ (t + 1) * (t + 1) := Int.mul_nonneg (by omega) (by omega)
      refine ⟨mulW_of (by decide) (by omega), ?_⟩
      have e : 7368787 * (t + 1) * (t + 1) = 7368787 * ((t + 1) * (t + 1)) := Int.mul_assoc _ _ _
      refine ⟨mulW_of (by omega) (by omega), ?_⟩
      refine ⟨mulW_of (by decide) (by omega), ?_⟩
      refine ⟨⟨by decide, ?_⟩, ?_⟩
      · have b : Builtin.Int.intBits (m + 7368787 * (t + 1) * (t + 1) + 104729 * (t + 1)) ≤ 70 := by
          refine PySem.intBits_le_iff.mpr ?_
          rw [e]
          generalize (t + 1) * (t + 1) = q at tt tt0
          omega
        show (Builtin.Int.intBits (m + 7368787 * (t + 1) * (t + 1) + 104729 * (t + 1)) : Int) * 3 ≤ 2 ^ 27
        omega
      refine ⟨(by omega : (0 : Int) < pr), ?_⟩
      generalize hmx : (m + 7368787 * (t + 1) * (t + 1) + 104729 * (t + 1)) ^ Int.toNat 3 % pr = mx
      have mx0 : 0 ≤ mx := by rw [← hmx]; exact Int.emod_nonneg _ (by omega)
      have mx1 : mx < 2 ^ 61 := by rw [← hmx]; exact Int.lt_of_lt_of_le (Int.emod_lt_of_pos _ (by omega)) pr1
      refine ⟨(by decide : (0 : Int) < 10009), ?_⟩
      refine ⟨mulW_of (by decide) (by omega), ?_⟩
      refine ⟨mulW_of (by omega) (by omega), ?_⟩
      refine ⟨(by decide : (0 : Int) < 2305843009213693669), ?_⟩
      refine ⟨⟨by decide, by decide⟩, ?_⟩
      refine ⟨z0, ?_⟩
      exact k _ (Int.emod_nonneg _ (by omega)) (Int.emod_lt_of_pos _ z0)
  · obtain ⟨z, rfl, _⟩ := h
    rfl
def spOf : DSp := fun ds n Q _ => ∃ xs : List Dat, (ds = [.pot, .lst xs] ∨ ds = [.pot, .tup xs]) ∧ n < 1000000 ∧ 0 < xs.length ∧ xs.length ≤ 1000000 ∧ ∀ v ∈ xs, Q v (n + 1)
theorem atI_of {xs : List Dat} {r : Int} (r0 : 0 ≤ r) (r1 : r < (xs.length : Int)) : ∃ v ∈ xs, atI xs r = some v := by
  obtain ⟨j, e⟩ : ∃ j : Nat, r = (j : Int) := ⟨r.toNat, by omega⟩
  subst e
  have h : j < xs.length := by omega
  refine ⟨xs[j], List.getElem_mem h, ?_⟩
  unfold atI ixN
  rw [if_pos (by omega), if_pos (by omega)]
  show xs[(j : Int).toNat]? = _
  rw [Int.toNat_natCast, List.getElem?_eq_getElem h]
theorem sc__law_of : FnScope ["_law_pot_here", "_law_options"] ["_law_pot_here", "_law_options"] (defScope (top 66)) := ⟨rfl, rfl, rfl, by decide +kernel, rfl, by decide +kernel, by decide +kernel⟩
theorem ok_of {G : Bool} (F : Has K mg "_law_of" (top 66)) (T : Blt mg) (D__law_take : Df P w K mg base false 1 "_law_take" (LSp K TT spTake)) : Df P w K mg base G 2 "_law_of" (LSp K TT spOf) := by
  refine dat_ok F (fun f fd F => F.binds (fun _ _ _ _ _ _ us hl => by obtain ⟨x0, x1, rfl⟩ := us2 hl; rfl)) sc__law_of (fun f cdv A outer s H E hr hG => ⟨_, (dss_one (ds_ret (de_ix ix_seq od_ix (de_var (pv 1)) (de_call D__law_take hr (by first | decide | omega) (by first | exact hG | (intro z; cases z)) rfl passL (da_cons (de_var (pv 0)) (da_cons (de_cb cd_len (pe_callB call_len rfl T.n_len boot_len (da_cons (de_var (pv 1)) da_nil))) da_nil))) (fun _ _ => rfl)))), fun ds n PP R h => ?_⟩) (fun ds n PP R h => ?_)
  · obtain ⟨xs, hd, hn, h0, h1, k⟩ := h
    rcases hd with rfl | rfl
    · refine ⟨rfl, ?_⟩
      refine ⟨(xs.length : Nat), rfl, hn, by omega, by omega, fun r r0 r1 => ?_⟩
      obtain ⟨v, hv, ha⟩ := atI_of r0 r1
      show optD (atI xs r) _
      rw [ha]
      exact k v hv
    · refine ⟨rfl, ?_⟩
      refine ⟨(xs.length : Nat), rfl, hn, by omega, by omega, fun r r0 r1 => ?_⟩
      obtain ⟨v, hv, ha⟩ := atI_of r0 r1
      show optD (atI xs r) _
      rw [ha]
      exact k v hv
  · obtain ⟨xs, hd, _⟩ := h
    rcases hd with rfl | rfl <;> rfl
def spCells : DSp := fun ds n Q _ => ∃ (ns : List Int) (m : Int), ds = [.scr ns, .int m] ∧ ns.length ≤ 63 ∧ m ≤ 60 ∧ ∀ k : Nat, k ≤ 60 → (k : Int) ≤ m ∨ k ≤ 1 → Q (.lst (numL 0 k)) n
theorem max_min (m l : Int) (h : l ≤ 63) (hm : m ≤ 60) : ∃ c : Int, (fun i j : Int => if j > i then j else i) 1 ((fun i j : Int => if j < i then j else i) m l) = c ∧ 1 ≤ c ∧ c ≤ 60 ∧ (c ≤ m ∨ c ≤ 1) := by
  refine ⟨_, rfl, ?_⟩
  show 1 ≤ (if (if l < m then l else m) > 1 then (if l < m then l else m) else 1) ∧ _ ∧ _
  dsimp only
  split <;> split <;> omega
theorem sc__law_cells : FnScope ["_law_script", "_law_most"] ["_law_script", "_law_most"] (defScope (top 67)) := ⟨rfl, rfl, rfl, by decide +kernel, rfl, by decide +kernel, by decide +kernel⟩
theorem ok_cells {G : Bool} (F : Has K mg "_law_cells" (top 67)) (T : Blt mg) : Df P w K mg base G 1 "_law_cells" (LSp K TT spCells) := by
  refine dat_ok F (fun f fd F => F.binds (fun _ _ _ _ _ _ us hl => by obtain ⟨x0, x1, rfl⟩ := us2 hl; rfl)) sc__law_cells (fun f cdv A outer s H E hr hG => ⟨_, (dss_one (ds_ret (de_fr (L2.PE.imp (pe_listRg rfl rfl T.n_list (prg_1 rfl T.n_range (de_cb (cd_2I _) (pe_callB (call_max2 rfl) rfl T.n_max boot_max (da_cons de_int (da_cons (de_cb (cd_2I _) (pe_callB (call_min2 rfl) rfl T.n_min boot_min (da_cons (de_var (pv 1)) (da_cons (de_cb cd_len (pe_callB call_len rfl T.n_len boot_len (da_cons (de_var (pv 0)) da_nil))) da_nil)))) da_nil)))))) fun _ _ _ h => lf_rg1 h)))), fun ds n PP R h => ?_⟩) (fun ds n PP R h => ?_)
  · obtain ⟨ns, m, rfl, hn, hm, k⟩ := h
    refine ⟨rfl, ?_⟩
    obtain ⟨c, hc, c1, c2, c3⟩ := max_min m ns.length (by omega) hm
    show (-1000000 ≤ (fun i j : Int => if j > i then j else i) 1 ((fun i j : Int => if j < i then j else i) m (ns.length : Nat)) ∧ _) ∧ _
    rw [hc]
    refine ⟨by omega, ?_⟩
    exact k c.toNat (by omega) (by omega)
  · obtain ⟨ns, m, rfl, _⟩ := h
    rfl
def spPot : DSp := fun ds n Q _ => ∃ (ns : List Int) (j : Int), ds = [.scr ns, .int j] ∧ 0 ≤ j ∧ j < 63 ∧ (∀ z ∈ ns, Builtin.Int.intBits z ≤ 1048576) ∧ ns.length ≤ 63 ∧ Q .pot n
theorem sc__law_pot : FnScope ["_law_script", "_law_place", "_law_cell", "_law_digits"] ["_law_script", "_law_place"] (defScope (top 64)) := ⟨rfl, rfl, rfl, by decide +kernel, rfl, by decide +kernel, by decide +kernel⟩
theorem ok_pot {G : Bool} (F : Has K mg "_law_pot" (top 64)) (T : Blt mg) : Df P w K mg base G 1 "_law_pot" (LSp K TT spPot) := by
  refine dat_ok F (fun f fd F => F.binds (fun _ _ _ _ _ _ us hl => by obtain ⟨x0, x1, rfl⟩ := us2 hl; rfl)) sc__law_pot (fun f cdv A outer s H E hr hG => ⟨_, (dss_cut (ds_set (i := 2) sc__law_pot.nd rfl (Or.inl rfl) (de_if (dt_cmp op_lt (od_IB _) (de_var (pv 1)) (de_cb cd_len (pe_callB call_len rfl T.n_len boot_len (da_cons (de_var (pv 0)) da_nil))) (nomark _)) (de_ix ix_seq od_ix (de_var (pv 0)) (de_var (pv 1)) (fun _ _ => rfl)) de_int))
      (dss_cut (ds_set (i := 3) sc__law_pot.nd rfl (Or.inl rfl) (de_op op_mulA od_mulA (de_op op_mod (od_IC _) (de_cb cd_int (pe_callTy call_intA rfl T.n_int boot_int (da_cons (de_cb cd_abs (pe_callB call_abs rfl T.n_abs boot_abs (da_cons (de_var (pv 2)) da_nil))) da_nil))) (de_op op_powW (od_IC _) (de_op op_powW (od_IC _) de_int de_int) de_int)) (de_cb cd_int (pe_callTy call_intA rfl T.n_int boot_int (da_cons (de_cmp op_ge (od_IB _) (de_cb cd_abs (pe_callB call_abs rfl T.n_abs boot_abs (da_cons (de_var (pv 2)) da_nil))) (de_op op_powW (od_IC _) de_int de_int) (nomark _)) da_nil)))))
      (dss_one (ds_ret (de_newPot (pe_pot (pe_lst (da_cons (de_var (pv 3)) (da_cons (de_op op_mod (od_IC _) (de_cb cd_int (pe_callTy call_intA rfl T.n_int boot_int (da_cons (de_op op_addAny od_add (de_op op_mulA od_mulA (de_var (pv 2)) de_int) (de_op op_mulA od_mulA de_int (de_op op_powW (od_IC _) (de_op op_addAny od_add (de_var (pv 1)) de_int) de_int))) da_nil))) de_int) (da_cons de_int da_nil)))))))))), fun ds n PP R h => ?_⟩) (fun ds n PP R h => ?_)
  · obtain ⟨ns, j, rfl, j0, j1, hb, hl, k⟩ := h
    refine ⟨rfl, ?_⟩
    refine ⟨fun ρ' m => ∃ c : Int, Builtin.Int.intBits c ≤ 1048576 ∧ ρ' = [.val (.scr ns), .val (.int j), .val (.int c), .no] ∧ m = n, ?_, ?_⟩
    · refine ite2 (fun c => ?_) (fun c => ?_)
      · have hj : j < ns.length := of_decide_eq_true c
        obtain ⟨i, e⟩ : ∃ i : Nat, j = (i : Int) := ⟨j.toNat, by omega⟩
        have hi : i < ns.length := by omega
        have ha : atI ns j = some ns[i] := by
          unfold atI ixN
          rw [if_pos (by omega), if_pos (by omega)]
          show ns[j.toNat]? = _
          rw [show j.toNat = i by omega, List.getElem?_eq_getElem hi]
        show optD (atI ns j) _
        rw [ha]
        exact ⟨_, hb _ (List.getElem_mem hi), rfl, rfl⟩
      · exact ⟨0, by decide, rfl, rfl⟩
    · rintro ρ' m ⟨c, hc, rfl, rfl⟩
      refine ⟨fun ρ' m' => ∃ d : Int, 0 ≤ d ∧ ρ' = [.val (.scr ns), .val (.int j), .val (.int c), .val (.int d)] ∧ m' = m, ?_, ?_⟩
      · refine ⟨⟨by decide, by decide⟩, ⟨by decide, by decide +kernel⟩, (by decide +kernel : (0 : Int) < (10 ^ Int.toNat 60) ^ Int.toNat 5), ⟨by decide, by decide⟩, ?_⟩
        have p1 : (0 : Int) < (10 ^ Int.toNat 60) ^ Int.toNat 5 := by decide +kernel
        have a0 : 0 ≤ (if c < 0 then -c else c) := by split <;> omega
        have m0 : 0 ≤ (if c < 0 then -c else c) % (10 ^ Int.toNat 60) ^ Int.toNat 5 := Int.emod_nonneg _ (Int.ne_of_gt p1)
        have m1 : (if c < 0 then -c else c) % (10 ^ Int.toNat 60) ^ Int.toNat 5 < (10 ^ Int.toNat 60) ^ Int.toNat 5 := Int.emod_lt_of_pos _ p1
        have b0 : ∀ b : Bool, 0 ≤ (if b then (1 : Int) else 0) ∧ (if b then (1 : Int) else 0) ≤ 1 := fun b => by cases b <;> decide
        have hb2 := b0 (decide ((10 : Int) ^ Int.toNat 18 ≤ (if c < 0 then -c else c)))
        refine ⟨?_, ⟨_, Int.mul_nonneg m0 hb2.1, rfl, rfl⟩⟩
        refine .inr <| wide_mul (a := 1200) (b := 10) ?_ ?_ (by decide) (by decide) (by decide)
        · have h2 : (10 ^ Int.toNat 60 : Int) ^ Int.toNat 5 ≤ 2 ^ 1200 := by decide +kernel
          have h3 : (2 : Int) ^ 1200 = ((2 ^ 1200 : Nat) : Int) := by norm_cast
          rw [h3] at h2
          generalize (2 ^ 1200 : Nat) = B at h2 ⊢
          omega
        · generalize (if (decide ((10 : Int) ^ Int.toNat 18 ≤ (if c < 0 then -c else c))) then (1 : Int) else 0) = B at hb2 ⊢
          have : (2 : Nat) ^ 10 = 1024 := by decide
          omega
      · rintro ρ' m' ⟨d, d0, rfl, rfl⟩
        have bj : Builtin.Int.intBits (j + 1) ≤ 70 := PySem.intBits_le_iff.mpr (by omega)
        refine ⟨.inl (.inr ⟨by omega, by omega⟩), ⟨by omega, by omega⟩, .inl (.inl ⟨by omega, by omega⟩), (by decide : (0 : Int) < 2305843009213693921), ⟨?_, k⟩⟩
        have h1 := Int.emod_nonneg (c * 48271 + 1299709 * (j + 1) ^ Int.toNat 2) (show (2305843009213693921 : Int) ≠ 0 by decide)
        have h2 := Int.emod_lt_of_pos (c * 48271 + 1299709 * (j + 1) ^ Int.toNat 2) (show (0 : Int) < 2305843009213693921 by decide)
        exact ⟨d0, by omega, by omega, by omega, by omega⟩
  · obtain ⟨ns, m, rfl, _⟩ := h
    rfl
theorem strB_dec {x : Str} (h : (decide (x.length ≤ sizeLine) && x.cps.all (fun c => decide (c < 0x110000))) = true) : StrB x := by
  rw [Bool.and_eq_true] at h
  exact ⟨of_decide_eq_true h.1, h.2⟩
def isLet (c : Nat) : Prop := 97 ≤ c ∧ c ≤ 122
def abc : Str := "abcdefghijklmnopqrstuvwxyz"
theorem abc_at {i : Int} (h0 : 0 ≤ i) (h1 : i < 26) : atI abc.cps.toList i = some (97 + i.toNat) := by
  obtain ⟨j, e⟩ : ∃ j : Nat, i = (j : Int) := ⟨i.toNat, by omega⟩
  subst e
  have h : ∀ j < 26, atI abc.cps.toList ((j : Nat) : Int) = some (97 + j) := by decide +kernel
  exact h j (by omega)
def spLetter : DSp := fun ds n Q _ => ∃ i : Int, ds = [.int i] ∧ 0 ≤ i ∧ i < 26 ∧ ∀ c, isLet c → Q (.str ⟨#[c]⟩) n
theorem sc__law_letter : FnScope ["_law_at"] ["_law_at"] (defScope (top 68)) := ⟨rfl, rfl, rfl, by decide +kernel, rfl, by decide +kernel, by decide +kernel⟩
theorem ok_letter {G : Bool} (F : Has K mg "_law_letter" (top 68)) (T : Blt mg) : Df P w K mg base G 1 "_law_letter" (LSp K TT spLetter) := by
  refine dat_ok F (fun f fd F => F.binds (fun _ _ _ _ _ _ us hl => by obtain ⟨x0, rfl⟩ := us1 hl; rfl)) sc__law_letter (fun f cdv A outer s H E hr hG => ⟨_, (dss_one (ds_ret (de_ix ix_seq od_ix de_str (de_var (pv 0)) (fun _ _ => rfl)))), fun ds n PP R h => ?_⟩) (fun ds n PP R h => ?_)
  · obtain ⟨i, rfl, i0, i1, k⟩ := h
    refine ⟨rfl, ?_⟩
    show optD (atI abc.cps.toList i) _
    rw [abc_at i0 i1]
    exact k _ ⟨by omega, by omega⟩
  · obtain ⟨i, rfl, _⟩ := h
    rfl
def isNm (x : Str) : Prop := 1 ≤ x.cps.size ∧ x.cps.size ≤ 8 ∧ ∀ c ∈ x.cps.toList, isLet c
def lineWords : List Str := ["tick", "look", "forget", "down", "up", "announce", "update", "way", "shows", "room", "part", "places", "put", "take", "swap", "push", "yes", "other", "at", "calm", "grace"]
theorem lineWords_nm : ∀ x ∈ lineWords, isNm x := by
  have h : lineWords.all (fun x => decide (1 ≤ x.cps.size) && decide (x.cps.size ≤ 8) && x.cps.toList.all fun c => decide (97 ≤ c) && decide (c ≤ 122)) = true := by decide +kernel
  intro x hx
  have z := List.all_eq_true.mp h x hx
  simp only [Bool.and_eq_true, decide_eq_true_eq, List.all_eq_true] at z
  exact ⟨z.1.1, z.1.2, z.2⟩
def spWord : DSp := fun ds n Q _ => ds = [.pot] ∧ n < 1000000 ∧ ∀ x, isNm x → Q (.str x) (n + 1)
theorem sc__law_word_of_lines : FnScope ["_law_pot_here", "_law_some", "_law_more"] ["_law_pot_here"] (defScope (top 69)) := ⟨rfl, rfl, rfl, by decide +kernel, rfl, by decide +kernel, by decide +kernel⟩
theorem ok_word {G : Bool} (F : Has K mg "_law_word_of_lines" (top 69)) (T : Blt mg) (D__law_of : Df P w K mg base false 2 "_law_of" (LSp K TT spOf)) : Df P w K mg base G 3 "_law_word_of_lines" (LSp K TT spWord) := by
  refine dat_ok F (fun f fd F => F.binds (fun _ _ _ _ _ _ us hl => by obtain ⟨x0, rfl⟩ := us1 hl; rfl)) sc__law_word_of_lines (fun f cdv A outer s H E hr hG => ⟨_, (dss_cons (ds_set (i := 1) sc__law_word_of_lines.nd rfl (Or.inl rfl) (de_lst (da_cons de_str (da_cons de_str (da_cons de_str (da_cons de_str (da_cons de_str (da_cons de_str (da_cons de_str (da_cons de_str (da_cons de_str (da_cons de_str da_nil))))))))))))
      (dss_cons (ds_set (i := 2) sc__law_word_of_lines.nd rfl (Or.inl rfl) (de_lst (da_cons de_str (da_cons de_str (da_cons de_str (da_cons de_str (da_cons de_str (da_cons de_str (da_cons de_str (da_cons de_str (da_cons de_str (da_cons de_str (da_cons de_str da_nil)))))))))))))
      (dss_one (ds_ret (de_call D__law_of hr (by first | decide | omega) (by first | exact hG | (intro z; cases z)) rfl passL (da_cons (de_var (pv 0)) (da_cons (de_op op_addAny od_add (de_var (pv 1)) (de_var (pv 2))) da_nil))))))), fun ds n PP R h => ?_⟩) (fun ds n PP R h => ?_)
  · obtain ⟨rfl, hn, k⟩ := h
    refine ⟨rfl, by show 10 ≤ sizeLine; decide, by show 11 ≤ sizeLine; decide, by show 10 + 11 ≤ sizeLine; decide, lineWords.map Dat.str, .inl rfl, hn, by show 0 < 21; decide, by show 21 ≤ 1000000; decide, fun v hv => ?_⟩
    obtain ⟨x, hx, e⟩ := List.mem_map.mp hv
    subst e
    exact k x (lineWords_nm x hx)
  · obtain ⟨rfl, _⟩ := h
    rfl
end
end Aim
namespace Aim
open PySem PySem.Spec PyProof.Rows L2 RZ
open LamX (TabB)
section
variable {P : Program} {w : World} {K : PySem.W.Frag} {mg : Str → Option Value} {base : Heap} {TT : List (Addr × Str)}
def Kd (d : Dat) : Prop := (tyK d).isSome = true
theorem kd_of {d : Dat} (h : Kd d) {Q : String → Prop} (k : ∀ t, tyK d = some t → Q t) : optD (tyK d) Q := by
  obtain ⟨t, e⟩ := Option.isSome_iff_exists.mp h
  rw [e]
  exact k t e
def isInt : Dat → Bool
  | .int _ => true
  | _ => false
theorem isInt_ty {d : Dat} {t : String} (h : tyK d = some t) : (isT "int" t && !isT "bool" t) = isInt d := by
  cases d <;> cases h <;> rfl
theorem isInt_of {d : Dat} (h : isInt d = true) : ∃ i, d = .int i := by
  cases d <;> first | exact ⟨_, rfl⟩ | cases h
def spIsInt : DSp := fun ds n Q _ => ∃ d, ds = [d] ∧ Kd d ∧ Q (.bl (isInt d)) n
theorem sc_is_integer : FnScope ["value"] ["value"] (defScope (top 4)) := ⟨rfl, rfl, rfl, by decide +kernel, rfl, by decide +kernel, by decide +kernel⟩
theorem ok_is_integer {G : Bool} (F : Has K mg "is_integer" (top 4)) (T : Blt mg) : Df P w K mg base G 1 "is_integer" (LSp K TT spIsInt) := by
  refine dat_ok F (fun f fd F => F.binds (fun _ _ _ _ _ _ us hl => by obtain ⟨x0, rfl⟩ := us1 hl; rfl)) sc_is_integer (fun f cdv A outer s H E hr hG => ⟨_, (dss_one (ds_ret (de_and (de_cb (cd_isT (T := "int") (by simp)) (pe_callB call_isi rfl T.n_isinstance boot_isinstance (da_cons (de_var (pv 0)) (da_cons (de_c (pe_bltn (v := .ty "int") rfl T.n_int boot_int rfl) (fun _ _ => .ty _)) da_nil)))) (de_one (de_not (de_cb (cd_isT (T := "bool") (by simp)) (pe_callB call_isi rfl T.n_isinstance boot_isinstance (da_cons (de_var (pv 0)) (da_cons (de_c (pe_bltn (v := .ty "bool") rfl T.n_bool boot_bool rfl) (fun _ _ => .ty _)) da_nil))))))))), fun ds n PP R h => ?_⟩) (fun ds n PP R h => ?_)
  · obtain ⟨d, rfl, hd, k⟩ := h
    refine ⟨rfl, rfl, kd_of hd fun t e => ?_⟩
    rw [← isInt_ty e] at k
    refine ite2 (fun c => ?_) (fun c => ?_)
    · rw [c, Bool.true_and] at k
      exact ⟨rfl, kd_of hd fun t' e' => by
        rw [e] at e'
        cases e'
        exact k⟩
    · rw [Bool.eq_false_iff.mpr c, Bool.false_and] at k
      exact k
  · obtain ⟨d, rfl, _⟩ := h
    rfl
def isFrom (d : Dat) (lo hi : Int) : Bool := match d with
  | .int i => decide (lo ≤ i) && decide (i ≤ hi)
  | _ => false
def spIsFrom : DSp := fun ds n Q _ => ∃ d lo hi, ds = [d, .int lo, .int hi] ∧ Kd d ∧ Q (.bl (isFrom d lo hi)) n
theorem sc_is_from : FnScope ["value", "low", "high"] ["value", "low", "high"] (defScope (top 5)) := ⟨rfl, rfl, rfl, by decide +kernel, rfl, by decide +kernel, by decide +kernel⟩
theorem ok_is_from {G : Bool} (F : Has K mg "is_from" (top 5)) (T : Blt mg) (D_is_integer : Df P w K mg base false 1 "is_integer" (LSp K TT spIsInt)) : Df P w K mg base G 2 "is_from" (LSp K TT spIsFrom) := by
  refine dat_ok F (fun f fd F => F.binds (fun _ _ _ _ _ _ us hl => by obtain ⟨x0, x1, x2, rfl⟩ := us3 hl; rfl)) sc_is_from (fun f cdv A outer s H E hr hG => ⟨_, (dss_one (ds_ret (de_and (de_call D_is_integer hr (by first | decide | omega) (by first | exact hG | (intro z; cases z)) rfl passL (da_cons (de_var (pv 0)) da_nil)) (de_one (de_chain op_le op_le (od_IB _) (od_IB _) (de_var (pv 1)) (de_var (pv 0)) (de_var (pv 2))))))), fun ds n PP R h => ?_⟩) (fun ds n PP R h => ?_)
  · obtain ⟨d, lo, hi, rfl, hd, k⟩ := h
    refine ⟨rfl, d, rfl, hd, ?_⟩
    cases c : isInt d with
    | true =>
      obtain ⟨i, rfl⟩ := isInt_of c
      refine ite2 (fun c => ?_) (fun c => ?_)
      · have e : isFrom (.int i) lo hi = decide (i ≤ hi) := by
          show (decide (lo ≤ i) && _) = _
          rw [c, Bool.true_and]
        rw [e] at k
        exact k
      · have e : isFrom (.int i) lo hi = false := by
          show (decide (lo ≤ i) && _) = _
          rw [Bool.eq_false_iff.mpr c, Bool.false_and]
        rw [e] at k
        exact k
    | false =>
      have e : isFrom d lo hi = false := by cases d <;> first | rfl | cases c
      rw [e] at k
      exact k
  · obtain ⟨d, lo, hi, rfl, _⟩ := h
    rfl
def isTup (d : Dat) (k : Nat) : Bool := match d with
  | .tup xs => xs.length == k
  | _ => false
theorem isTup_of {d : Dat} {k : Nat} (h : isTup d k = true) : ∃ xs, d = .tup xs ∧ xs.length = k := by
  cases d <;> first | exact ⟨_, rfl, beq_iff_eq.mp h⟩ | cases h
theorem tup_orK {d : Dat} (h : Kd d) : (∃ x, d = .tup x) ∨ ∃ t, tyK d = some t ∧ isT "tuple" t = false := by
  cases d <;> first | exact .inl ⟨_, rfl⟩ | exact .inr ⟨_, rfl, rfl⟩ | cases h
theorem str_orK {d : Dat} (h : Kd d) : (∃ x, d = .str x) ∨ ∃ t, tyK d = some t ∧ isT "str" t = false := by
  cases d <;> first | exact .inl ⟨_, rfl⟩ | exact .inr ⟨_, rfl, rfl⟩ | cases h
theorem opt_no {d : Dat} {t : String} {Q : String → Prop} (e : tyK d = some t) (k : Q t) : optD (tyK d) Q := by
  rw [e]
  exact k
theorem cmp_fl {d : Dat} (h : flatK d = true) : cmpOk d := by
  cases d <;> first | exact ⟨rfl, by show PyData.depth _ ≤ 60; simp [py, PyData.depth]⟩ | cases h
theorem eqD_nat (a b : Nat) : eqD (.int (a : Nat)) (.int (b : Nat)) = (a == b) := by
  show ((a : Int) == (b : Int)) = (a == b)
  by_cases h : a = b
  · rw [h, beq_self_eq_true, beq_self_eq_true]
  · rw [beq_eq_false_iff_ne.mpr h, beq_eq_false_iff_ne.mpr (by omega)]
def spIsTup : DSp := fun ds n Q _ => ∃ (d : Dat) (k : Nat), ds = [d, .int k] ∧ Kd d ∧ Q (.bl (isTup d k)) n
theorem sc_is_tuple : FnScope ["value", "many"] ["value", "many"] (defScope (top 7)) := ⟨rfl, rfl, rfl, by decide +kernel, rfl, by decide +kernel, by decide +kernel⟩
theorem ok_is_tuple {G : Bool} (F : Has K mg "is_tuple" (top 7)) (T : Blt mg) : Df P w K mg base G 1 "is_tuple" (LSp K TT spIsTup) := by
  refine dat_ok F (fun f fd F => F.binds (fun _ _ _ _ _ _ us hl => by obtain ⟨x0, x1, rfl⟩ := us2 hl; rfl)) sc_is_tuple (fun f cdv A outer s H E hr hG => ⟨_, (dss_one (ds_ret (de_and (de_cb (cd_isT (T := "tuple") (by simp)) (pe_callB call_isi rfl T.n_isinstance boot_isinstance (da_cons (de_var (pv 0)) (da_cons (de_c (pe_bltn (v := .ty "tuple") rfl T.n_tuple boot_tuple rfl) (fun _ _ => .ty _)) da_nil)))) (de_one (de_cmp (op_eqDD hr.units) od_eq (de_cb cd_len (pe_callB call_len rfl T.n_len boot_len (da_cons (de_var (pv 0)) da_nil))) (de_var (pv 1)) (nomark _)))))), fun ds n PP R h => ?_⟩) (fun ds n PP R h => ?_)
  · obtain ⟨d, z, rfl, hd, k⟩ := h
    refine ⟨rfl, rfl, ?_⟩
    rcases tup_orK hd with ⟨xs, rfl⟩ | ⟨t, e, e2⟩
    · refine ⟨⟨cmp_fl rfl, cmp_fl rfl⟩, ?_⟩
      rw [eqD_nat]
      exact k
    · refine opt_no e ?_
      rw [e2]
      have no : isTup d z = false := by cases d <;> first | rfl | (cases e; cases e2)
      rw [no] at k
      exact k
  · obtain ⟨d, z, rfl, _⟩ := h
    rfl
def abcL : List Nat := ("abcdefghijklmnopqrstuvwxyz" : Str).cps.toList
def isNameS (x : Str) : Bool := decide (1 ≤ x.cps.size) && decide (x.cps.size ≤ 8) && x.cps.toList.all fun c => decide (c ∈ abcL)
def isNameD : Dat → Bool
  | .str x => isNameS x
  | _ => false
theorem isNameD_of {d : Dat} (h : isNameD d = true) : ∃ x, d = .str x ∧ isNameS x = true := by
  cases d <;> first | exact ⟨_, rfl, h⟩ | cases h
structure CstF (K : PySem.W.Frag) (mg : Str → Option Value) : Prop where
  g_LETTERS : GC K mg "LETTERS" (.str "abcdefghijklmnopqrstuvwxyz")
  g_MOST_LETTERS : GC K mg "MOST_LETTERS" (.int 8)
def spNameD : DSp := fun ds n Q _ => ∃ d : Dat, ds = [d] ∧ Kd d ∧ Q (.bl (isNameD d)) n
theorem compI_all {l : List Nat} {tg : DG} {fe : DE} {ρ : List Sl} {Q : Dat → Nat → Prop} {ds : List Dat} {m : Nat} (f : Dat → Bool) (h : ∀ d ∈ ds, ∀ (Q : Dat → Nat → Prop), Q (.bl (f d)) m → tg d (wiped ρ l) fun ρ' => fe ρ' m Q R0) (k : Q (.bl (ds.all f)) m) :
    compI l tg (fun _ n P _ => P true n) fe ρ (fun zs m => bools zs fun bs => Q (.bl (bs.all id)) m) ds m := by
  refine compI_map (fun d => .bl (f d)) h ?_
  have e : (ds.map fun d => Dat.bl (f d)) = (ds.map f).map Dat.bl := by
    rw [List.map_map]
    rfl
  rw [e]
  refine bools_map _ ?_
  rw [List.all_map]
  exact k
theorem compI_bools {l : List Nat} {tg : DG} {fe : DE} {ρ : List Sl} {Pb : List Bool → Nat → Prop} {ds : List Dat} {m : Nat} (f : Dat → Bool) (h : ∀ d ∈ ds, ∀ (Q : Dat → Nat → Prop), Q (.bl (f d)) m → tg d (wiped ρ l) fun ρ' => fe ρ' m Q R0) (k : Pb (ds.map f) m) :
    compI l tg (fun _ n P _ => P true n) fe ρ (fun zs m => bools zs fun bs => Pb bs m) ds m := by
  refine compI_map (fun d => .bl (f d)) h ?_
  have e : (ds.map fun d => Dat.bl (f d)) = (ds.map f).map Dat.bl := by
    rw [List.map_map]
    rfl
  rw [e]
  exact bools_map _ k
def signOk : Dat → Bool
  | .str ⟨⟨[c]⟩⟩ => decide (c ∈ abcL)
  | _ => false
theorem signOk_all (x : Str) : (signs x).all signOk = x.cps.toList.all fun c => decide (c ∈ abcL) := by
  unfold signs
  rw [List.all_map]
  rfl
theorem sc_is_name : FnScope ["value", "letter"] ["value"] (defScope (top 6)) := ⟨rfl, rfl, rfl, by decide +kernel, rfl, by decide +kernel, by decide +kernel⟩
theorem ok_isname {G : Bool} (F : Has K mg "is_name" (top 6)) (T : Blt mg) (Y : CstF K mg) : Df P w K mg base G 1 "is_name" (LSp K TT spNameD) := by
  refine dat_ok F (fun f fd F => F.binds (fun _ _ _ _ _ _ us hl => by obtain ⟨x0, rfl⟩ := us1 hl; rfl)) sc_is_name (fun f cdv A outer s H E hr hG => ⟨_, (dss_cons (ds_if (PW.pt (dw_or (dt_not (dt_val (de_cb (cd_isT (T := "str") (by simp)) (pe_callB call_isi rfl T.n_isinstance boot_isinstance (da_cons (de_var (pv 0)) (da_cons (de_c (pe_bltn (v := .ty "str") rfl T.n_str boot_str rfl) (fun _ _ => .ty _)) da_nil)))))) (dw_or1 (dt_not (dt_chain op_le op_le (od_IB _) (od_IB _) de_int (de_cb cd_len (pe_callB call_len rfl T.n_len boot_len (da_cons (de_var (pv 0)) da_nil))) (de_g rfl Y.g_MOST_LETTERS)))))) (dss_one (ds_ret de_bl)) dss_nil)
      (dss_one (ds_ret (de_cb cd_all (pe_callB (cr_all rfl) rfl T.n_all boot_all (da_cons (de_fr (lf_lcI (own := [("letter", 1)]) rfl sc_is_name.nd (di_str (de_var (pv 0))) (blkOk_by rfl) (fun _ _ _ _ _ => (dg_name (pg_name (i := 1) sc_is_name.nd rfl (Or.inl rfl) (Or.inr rfl)))) (fun _ _ _ _ _ => dts_nil) (fun _ _ _ _ _ => (de_cmp (op_inAny (units65 hr)) od_inAny (de_var (pv 1)) (de_g rfl Y.g_LETTERS) (by rfl))))) da_nil)))))), fun ds n PP R h => ?_⟩) (fun ds n PP R h => ?_)
  · obtain ⟨d, rfl, ht, k⟩ := h
    refine ⟨rfl, rfl, ?_⟩
    rcases str_orK ht with ⟨x, rfl⟩ | ⟨t, e, e2⟩
    · have hx : (x.length : Int) = (x.cps.size : Int) := rfl
      have k : PP (.bl (decide (1 ≤ x.cps.size) && decide (x.cps.size ≤ 8) && x.cps.toList.all fun c => decide (c ∈ abcL))) n := k
      refine ite2 (fun c => ?_) (fun c => ?_)
      · have c : 1 ≤ x.cps.size := by
          have c3 : (1 : Int) ≤ ((x.length : Nat) : Int) := by simpa using c
          omega
        rw [decide_eq_true c, Bool.true_and] at k
        refine ite2 (fun c2 => ?_) (fun c2 => ?_)
        · have c2 : ¬ x.cps.size ≤ 8 := by
            have c3 : ¬ ((x.length : Nat) : Int) ≤ 8 := by simpa using c2
            omega
          rw [decide_eq_false c2, Bool.false_and] at k
          exact k
        · have c2 : x.cps.size ≤ 8 := by
            have c3 : ((x.length : Nat) : Int) ≤ 8 := by simpa using c2
            omega
          rw [decide_eq_true c2, Bool.true_and, ← signOk_all] at k
          refine compI_all signOk (fun p hp Q q => ?_) k
          obtain ⟨c, _, rfl⟩ := List.mem_map.mp hp
          exact .inr (.inr q)
      · have c : ¬ 1 ≤ x.cps.size := by
          have c3 : ¬ (1 : Int) ≤ ((x.length : Nat) : Int) := by simpa using c
          omega
        rw [decide_eq_false c, Bool.false_and, Bool.false_and] at k
        exact k
    · refine opt_no e ?_
      show if (!isT "str" t) = true then _ else _
      rw [e2]
      have no : isNameD d = false := by cases d <;> first | rfl | (cases e; cases e2)
      rw [no] at k
      exact iteT k
  · obtain ⟨d, rfl, _⟩ := h
    rfl
def textsOf : List Dat → List Str
  | [] => []
  | .str x :: r => x :: textsOf r
  | _ :: r => textsOf r
theorem textsOf_map (xs : List Str) : textsOf (xs.map Dat.str) = xs := by
  induction xs with
  | nil => rfl
  | cons x r ih => exact congrArg (x :: ·) ih
theorem names_map : ∀ {xs : List Dat}, xs.all isNameD = true → xs = (textsOf xs).map Dat.str
  | [], _ => rfl
  | d :: r, h => by
    rw [List.all_cons, Bool.and_eq_true] at h
    obtain ⟨x, rfl, _⟩ := isNameD_of h.1
    exact congrArg (Dat.str x :: ·) (names_map h.2)
def areNames (d : Dat) (lo hi : Int) : Bool := match d with
  | .tup xs => decide (lo ≤ (xs.length : Int)) && decide ((xs.length : Int) ≤ hi) && xs.all isNameD && decide ((textsOf xs).Nodup)
  | _ => false
def KdT (d : Dat) : Prop := Kd d ∧ ∀ xs, d = .tup xs → ∀ x ∈ xs, Kd x
def spAreNames : DSp := fun ds n Q _ => ∃ d lo hi, ds = [d, .int lo, .int hi] ∧ KdT d ∧ hi ≤ 2000 ∧ Q (.bl (areNames d lo hi)) n
theorem set_len {xs : List Str} : eqD (.int ((uniq xs).length : Nat)) (.int (xs.length : Nat)) = decide xs.Nodup := by
  rw [eqD_nat]
  by_cases h : xs.Nodup
  · rw [decide_eq_true h, (uniq_len xs).mpr h, beq_self_eq_true]
  · rw [decide_eq_false h]
    exact beq_eq_false_iff_ne.mpr fun z => h ((uniq_len xs).mp z)
theorem sc_are_names : FnScope ["value", "least", "most", "one"] ["value", "least", "most"] (defScope (top 8)) := ⟨rfl, rfl, rfl, by decide +kernel, rfl, by decide +kernel, by decide +kernel⟩
theorem ok_are_names {G : Bool} (F : Has K mg "are_names" (top 8)) (T : Blt mg) (D_is_name : Df P w K mg base false 1 "is_name" (LSp K TT spNameD)) : Df P w K mg base G 2 "are_names" (LSp K TT spAreNames) := by
  refine dat_ok F (fun f fd F => F.binds (fun _ _ _ _ _ _ us hl => by obtain ⟨x0, x1, x2, rfl⟩ := us3 hl; rfl)) sc_are_names (fun f cdv A outer s H E hr hG => ⟨_, (dss_cons (ds_if (PW.pt (dw_or (dt_not (dt_val (de_cb (cd_isT (T := "tuple") (by simp)) (pe_callB call_isi rfl T.n_isinstance boot_isinstance (da_cons (de_var (pv 0)) (da_cons (de_c (pe_bltn (v := .ty "tuple") rfl T.n_tuple boot_tuple rfl) (fun _ _ => .ty _)) da_nil)))))) (dw_or1 (dt_not (dt_chain op_le op_le (od_IB _) (od_IB _) (de_var (pv 1)) (de_cb cd_len (pe_callB call_len rfl T.n_len boot_len (da_cons (de_var (pv 0)) da_nil))) (de_var (pv 2))))))) (dss_one (ds_ret de_bl)) dss_nil)
      (dss_one (ds_ret (de_and (de_cb cd_all (pe_callB (cr_all rfl) rfl T.n_all boot_all (da_cons (de_fr (lf_lcI (own := [("one", 3)]) rfl sc_are_names.nd (di_tup (de_var (pv 0))) (blkOk_by rfl) (fun _ _ _ _ _ => (dg_name (pg_name (i := 3) sc_are_names.nd rfl (Or.inl rfl) (Or.inr rfl)))) (fun _ _ _ _ _ => dts_nil) (fun _ _ _ _ _ => (de_call D_is_name hr (by first | decide | omega) (by first | exact hG | (intro z; cases z)) rfl passL (da_cons (de_var (pv 3)) da_nil))))) da_nil))) (de_one (de_cmp (op_eqDD hr.units) od_eq (de_lenSet (pe_callB cr_lenSS rfl T.n_len boot_len (pa_cons (pe_callTy (cr_setOfS rfl) rfl T.n_set boot_set (pa_cons (de_var (pv 0)) pa_nil)) pa_nil))) (de_cb cd_len (pe_callB call_len rfl T.n_len boot_len (da_cons (de_var (pv 0)) da_nil))) (nomark _))))))), fun ds n PP R h => ?_⟩) (fun ds n PP R h => ?_)
  · obtain ⟨d, lo, hi, rfl, hd, h2, k⟩ := h
    refine ⟨rfl, rfl, ?_⟩
    rcases tup_orK hd.1 with ⟨xs, rfl⟩ | ⟨t, e, e2⟩
    · have k : PP (.bl (decide (lo ≤ (xs.length : Int)) && decide ((xs.length : Int) ≤ hi) && xs.all isNameD && decide ((textsOf xs).Nodup))) n := k
      refine ite2 (fun c => ?_) (fun c => ?_)
      · rw [c, Bool.true_and] at k
        have tail : PP (.bl (xs.all isNameD && decide ((textsOf xs).Nodup))) n → (xs.length : Int) ≤ hi → compI [3] (dgName 3) (fun _ n P _ => P true n) (dCall spNameD (dCons (dVar 3) dNil)) [.val (.tup xs), .val (.int lo), .val (.int hi), .no] (fun zs m => bools zs fun bs => asB (.bl (bs.all id)) fun c => if c = true then (dOp gEq (dUn gLenSet (dVar 0)) (dCB gLen (dCons (dVar 0) dNil))) [.val (.tup xs), .val (.int lo), .val (.int hi), .no] m PP R0 else PP (.bl false) m) xs n := fun k c2 => by
          refine compI_bools (Pb := fun bs m => asB (.bl (bs.all id)) fun c => if c = true then (dOp gEq (dUn gLenSet (dVar 0)) (dCB gLen (dCons (dVar 0) dNil))) [.val (.tup xs), .val (.int lo), .val (.int hi), .no] m PP R0 else PP (.bl false) m) isNameD (fun p hp Q q => ⟨p, rfl, hd.2 xs rfl p hp, q⟩) ?_
          have al : (xs.map isNameD).all id = xs.all isNameD := by rw [List.all_map]; rfl
          rw [al]
          refine ite2 (fun c3 => ?_) (fun c3 => ?_)
          · rw [c3, Bool.true_and] at k
            have e := names_map c3
            rw [e]
            refine txts_map _ ⟨by
              have : ((textsOf xs).map Dat.str).length = xs.length := congrArg List.length e.symm
              rw [List.length_map] at this
              omega, ⟨cmp_fl rfl, cmp_fl rfl⟩, ?_⟩
            rw [List.length_map, set_len]
            exact k
          · rw [Bool.eq_false_iff.mpr c3, Bool.false_and] at k
            exact k
        refine ite2 (fun c2 => ?_) (fun c2 => ?_)
        · have c2 : decide ((xs.length : Int) ≤ hi) = false := by simpa using c2
          rw [c2, Bool.false_and, Bool.false_and] at k
          exact k
        · have c2 : decide ((xs.length : Int) ≤ hi) = true := by simpa using c2
          rw [c2, Bool.true_and] at k
          exact tail k (of_decide_eq_true c2)
      · rw [Bool.eq_false_iff.mpr c, Bool.false_and, Bool.false_and, Bool.false_and] at k
        exact k
    · refine opt_no e ?_
      show if (!isT "tuple" t) = true then _ else _
      rw [e2]
      have no : areNames d lo hi = false := by cases d <;> first | rfl | (cases e; cases e2)
      rw [no] at k
      exact iteT k
  · obtain ⟨d, lo, hi, rfl, _⟩ := h
    rfl
def spAsc : DSp := fun ds n Q _ => ∃ xs : List Str, ds = [.lst (xs.map .str)] ∧ xs.length < 64 ∧ ∀ ys : List Str, ys.Nodup → (∀ k, k ∈ ys ↔ k ∈ xs) → sortedS ys = true → Q (.tup (ys.map .str)) n
theorem sc_ascending : FnScope ["things"] ["things"] (defScope (top 9)) := ⟨rfl, rfl, rfl, by decide +kernel, rfl, by decide +kernel, by decide +kernel⟩
theorem ok_ascending {G : Bool} (F : Has K mg "ascending" (top 9)) (T : Blt mg) : Df P w K mg base G 1 "ascending" (LSp K TT spAsc) := by
  refine dat_ok F (fun f fd F => F.binds (fun _ _ _ _ _ _ us hl => by obtain ⟨x0, rfl⟩ := us1 hl; rfl)) sc_ascending (fun f cdv A outer s H E hr hG => ⟨_, (dss_one (ds_ret (de_cb cd_tup (pe_callTy call_tupleN rfl T.n_tuple boot_tuple (da_cons (de_fr (lf_sortSet (pe_callB (cr_sortSS rfl) rfl T.n_sorted boot_sorted (pa_cons (pe_callTy (cr_setOfS rfl) rfl T.n_set boot_set (pa_cons (de_var (pv 0)) pa_nil)) pa_nil)))) da_nil))))), fun ds n PP R h => ?_⟩) (fun ds n PP R h => ?_)
  · obtain ⟨xs, rfl, hl, k⟩ := h
    exact ⟨rfl, txts_map _ ⟨hl, k⟩⟩
  · obtain ⟨xs, rfl, _⟩ := h
    rfl
end
end Aim
namespace Aim
open PySem PySem.Spec PyProof.Rows L2 RZ
open LamX (TabB)
section
variable {P : Program} {w : World} {K : PySem.W.Frag} {mg : Str → Option Value} {base : Heap} {TT : List (Addr × Str)}
def Kn : Nat → Dat → Prop
  | 0, d => Kd d
  | k + 1, d => Kd d ∧ ∀ xs, d = .tup xs → xs.length ≤ 2000 ∧ ∀ x ∈ xs, Kn k x
theorem Kn.kd : ∀ {k : Nat} {d : Dat}, Kn k d → Kd d
  | 0, _, h => h
  | _ + 1, _, h => h.1
theorem Kn.down : ∀ {k : Nat} {d : Dat}, Kn (k + 1) d → Kn k d
  | 0, _, h => h.1
  | k + 1, _, h => ⟨h.1, fun xs e => ⟨(h.2 xs e).1, fun x hx => ((h.2 xs e).2 x hx).down⟩⟩
theorem Kn.inn {k : Nat} {xs : List Dat} (h : Kn (k + 1) (.tup xs)) : xs.length ≤ 2000 ∧ ∀ x ∈ xs, Kn k x := h.2 xs rfl
theorem Kn.one {d : Dat} (h : Kn 1 d) : KdT d := ⟨h.1, fun xs e x hx => (h.2 xs e).2 x hx⟩
def memS (d : Dat) (ps : List Str) : Bool := match d with
  | .str x => decide (x ∈ ps)
  | _ => false
def isPlace (d : Dat) (ps : List Str) : Bool := isNameD d && memS d ps
theorem in_names {ps : List Str} {x : Str} : ((ps.map Dat.str).any fun y => eqF y (.str x)) = decide (x ∈ ps) := by
  rw [List.any_map]
  by_cases h : x ∈ ps
  · rw [decide_eq_true h]
    exact List.any_eq_true.mpr ⟨x, h, by show (x == x) = true; exact beq_self_eq_true x⟩
  · rw [decide_eq_false h]
    refine List.any_eq_false.mpr fun y hy z => h ?_
    have z : (y == x) = true := z
    rw [← beq_iff_eq.mp z]
    exact hy
theorem flat_names (ps : List Str) : (ps.map Dat.str).all flatK = true := List.all_eq_true.mpr fun d hd => by
  obtain ⟨x, _, rfl⟩ := List.mem_map.mp hd
  rfl
def namesD (ps : List Str) : Dat := .tup (ps.map .str)
theorem in_go {ps : List Str} {d : Dat} (h : isNameD d = true) {Q : Dat → Prop} (q : Q (.bl (memS d ps))) : gInAny d (namesD ps) Q := by
  obtain ⟨x, rfl, _⟩ := isNameD_of h
  refine .inr (.inl ⟨⟨rfl, flat_names ps⟩, ?_⟩)
  rw [in_names]
  exact q
def spPlace : DSp := fun ds n Q _ => ∃ d ps, ds = [d, namesD ps] ∧ Kd d ∧ Q (.bl (isPlace d ps)) n
theorem sc_is_place : FnScope ["value", "places"] ["value", "places"] (defScope (top 17)) := ⟨rfl, rfl, rfl, by decide +kernel, rfl, by decide +kernel, by decide +kernel⟩
theorem ok_is_place {G : Bool} (F : Has K mg "is_place" (top 17)) (T : Blt mg) (D_is_name : Df P w K mg base false 1 "is_name" (LSp K TT spNameD)) : Df P w K mg base G 2 "is_place" (LSp K TT spPlace) := by
  refine dat_ok F (fun f fd F => F.binds (fun _ _ _ _ _ _ us hl => by obtain ⟨x0, x1, rfl⟩ := us2 hl; rfl)) sc_is_place (fun f cdv A outer s H E hr hG => ⟨_, (dss_one (ds_ret (de_and (de_call D_is_name hr (by first | decide | omega) (by first | exact hG | (intro z; cases z)) rfl passL (da_cons (de_var (pv 0)) da_nil)) (de_one (de_cmp (op_inAny (units65 hr)) od_inAny (de_var (pv 0)) (de_var (pv 1)) (by rfl)))))), fun ds n PP R h => ?_⟩) (fun ds n PP R h => ?_)
  · obtain ⟨d, ps, rfl, hd, k⟩ := h
    refine ⟨rfl, d, rfl, hd, ?_⟩
    unfold isPlace at k
    refine ite2 (fun c => ?_) (fun c => ?_)
    · rw [c, Bool.true_and] at k
      exact in_go c k
    · rw [Bool.eq_false_iff.mpr c, Bool.false_and] at k
      exact k
  · obtain ⟨d, ps, rfl, _⟩ := h
    rfl
def namesO : Option (List Str) → Dat
  | none => .non
  | some ps => namesD ps
def isPartO (d : Dat) (po : Option (List Str)) : Bool := isNameD d && match po with
  | none => true
  | some ps => memS d ps
def spPartO : DSp := fun ds n Q _ => ∃ d po, ds = [d, namesO po] ∧ Kd d ∧ Q (.bl (isPartO d po)) n
theorem sc_is_part_changes : FnScope ["value", "parts"] ["value", "parts"] (defScope (top 18)) := ⟨rfl, rfl, rfl, by decide +kernel, rfl, by decide +kernel, by decide +kernel⟩
theorem ok_is_part_changes {G : Bool} (F : HasA K mg "is_part_changes" "is_part" (top 18)) (T : Blt mg) (D_is_name : Df P w K mg base false 1 "is_name" (LSp K TT spNameD)) : Df P w K mg base G 2 "is_part_changes" (LSp K TT spPartO) := by
  refine dat_okA F (fun f fd F => F.binds (fun _ _ _ _ _ _ us hl => by obtain ⟨x0, x1, rfl⟩ := us2 hl; rfl)) sc_is_part_changes (fun f cdv A outer s H E hr hG => ⟨_, (dss_one (ds_ret (de_and (de_call D_is_name hr (by first | decide | omega) (by first | exact hG | (intro z; cases z)) rfl passL (da_cons (de_var (pv 0)) da_nil)) (de_one (de_or (de_isN (de_var (pv 1))) (de_one (de_cmp (op_inAny (units65 hr)) od_inAny (de_var (pv 0)) (de_var (pv 1)) (by rfl)))))))), fun ds n PP R h => ?_⟩) (fun ds n PP R h => ?_)
  · obtain ⟨d, po, rfl, hd, k⟩ := h
    refine ⟨rfl, d, rfl, hd, ?_⟩
    unfold isPartO at k
    refine ite2 (fun c => ?_) (fun c => ?_)
    · rw [c, Bool.true_and] at k
      cases po with
      | none => exact k
      | some ps => exact in_go c k
    · rw [Bool.eq_false_iff.mpr c, Bool.false_and] at k
      exact k
  · obtain ⟨d, po, rfl, _⟩ := h
    rfl
def firstOf : Dat → Dat
  | .tup (a :: _) => a
  | d => d
def rowOk (ps : List Str) (po : Option (List Str)) : Dat → Bool
  | .tup [a, b] => isPlace a ps && isPartO b po
  | _ => false
def areRows (d : Dat) (ps : List Str) (po : Option (List Str)) : Bool := match d with
  | .tup xs => xs.all (rowOk ps po) && decide ((textsOf (xs.map firstOf)).Nodup)
  | _ => false
theorem rowOk_of {ps : List Str} {po : Option (List Str)} {d : Dat} (h : rowOk ps po d = true) : ∃ a b, d = .tup [a, b] ∧ isNameD a = true ∧ isPlace a ps = true ∧ isPartO b po = true := by
  unfold rowOk at h
  split at h
  · rename_i a b
    rw [Bool.and_eq_true] at h
    have z := h.1
    unfold isPlace at z
    rw [Bool.and_eq_true] at z
    exact ⟨_, _, rfl, z.1, h.1, h.2⟩
  · cases h
structure CstC (K : PySem.W.Frag) (mg : Str → Option Value) : Prop where
  g_PUT : GC K mg "PUT" (.str "put")
  g_TAKE : GC K mg "TAKE" (.str "take")
  g_SWAP : GC K mg "SWAP" (.str "swap")
  g_PUSH : GC K mg "PUSH" (.str "push")
  g_PAIR_changes : GC K mg "PAIR_changes" (.int 2)
  g_TRIPLE : GC K mg "TRIPLE" (.int 3)
theorem pair_of {d : Dat} (h : isTup d 2 = true) : ∃ a b, d = .tup [a, b] := by
  obtain ⟨xs, rfl, hl⟩ := isTup_of h
  match xs, hl with
  | [a, b], _ => exact ⟨a, b, rfl⟩
theorem names_first : ∀ {xs : List Dat}, (∀ x ∈ xs, isNameD (firstOf x) = true) → xs.map firstOf = (textsOf (xs.map firstOf)).map Dat.str := fun {xs} h => names_map (List.all_eq_true.mpr fun y hy => by
  obtain ⟨x, hx, rfl⟩ := List.mem_map.mp hy
  exact h x hx)
def spRows : DSp := fun ds n Q _ => ∃ d ps po, ds = [d, namesD ps, namesO po] ∧ Kn 2 d ∧ Q (.bl (areRows d ps po)) n
theorem sc_are_rows : FnScope ["value", "places", "parts", "row"] ["value", "places", "parts"] (defScope (top 20)) := ⟨rfl, rfl, rfl, by decide +kernel, rfl, by decide +kernel, by decide +kernel⟩
theorem ok_are_rows {G : Bool} (F : Has K mg "are_rows" (top 20)) (T : Blt mg) (Y : CstC K mg) (D_is_tuple : Df P w K mg base false 1 "is_tuple" (LSp K TT spIsTup)) (D_is_place : Df P w K mg base false 2 "is_place" (LSp K TT spPlace)) (D_is_part_changes : Df P w K mg base false 2 "is_part_changes" (LSp K TT spPartO)) : Df P w K mg base G 3 "are_rows" (LSp K TT spRows) := by
  refine dat_ok F (fun f fd F => F.binds (fun _ _ _ _ _ _ us hl => by obtain ⟨x0, x1, x2, rfl⟩ := us3 hl; rfl)) sc_are_rows (fun f cdv A outer s H E hr hG => ⟨_, (dss_cons (ds_if (dt_not (dt_val (de_cb (cd_isT (T := "tuple") (by simp)) (pe_callB call_isi rfl T.n_isinstance boot_isinstance (da_cons (de_var (pv 0)) (da_cons (de_c (pe_bltn (v := .ty "tuple") rfl T.n_tuple boot_tuple rfl) (fun _ _ => .ty _)) da_nil)))))) (dss_one (ds_ret de_bl)) dss_nil)
      (dss_cons (ds_forI PassesOwn.never rfl (di_tup (de_var (pv 0))) (dg_name (pg_name (i := 3) sc_are_rows.nd rfl (Or.inl rfl) (Or.inl rfl))) (dss_one (ds_if (PW.pt (dw_or (dt_not (dt_val (de_call D_is_tuple hr (by first | decide | omega) (by first | exact hG | (intro z; cases z)) rfl passL (da_cons (de_var (pv 3)) (da_cons (de_g rfl Y.g_PAIR_changes) da_nil))))) (dw_or (dt_not (dt_val (de_call D_is_place hr (by first | decide | omega) (by first | exact hG | (intro z; cases z)) rfl passL (da_cons (de_ix ix_seq od_ix (de_var (pv 3)) de_int (fun _ _ => rfl)) (da_cons (de_var (pv 1)) da_nil))))) (dw_or1 (dt_not (dt_val (de_call D_is_part_changes hr (by first | decide | omega) (by first | exact hG | (intro z; cases z)) rfl passL (da_cons (de_ix ix_seq od_ix (de_var (pv 3)) de_int (fun _ _ => rfl)) (da_cons (de_var (pv 2)) da_nil))))))))) (dss_one (ds_ret de_bl)) dss_nil)))
      (dss_one (ds_ret (de_cmp (op_eqDD hr.units) od_eq (de_lenSet (pe_callB cr_lenSS rfl T.n_len boot_len (pa_cons (pe_callTy (cr_setOfS rfl) rfl T.n_set boot_set (pa_cons (de_fr (lf_lcI (own := [("row", 3)]) rfl sc_are_rows.nd (di_tup (de_var (pv 0))) (blkOk_by rfl) (fun _ _ _ _ _ => (dg_name (pg_name (i := 3) sc_are_rows.nd rfl (Or.inl rfl) (Or.inr rfl)))) (fun _ _ _ _ _ => dts_nil) (fun _ _ _ _ _ => (de_ix ix_seq od_ix (de_var (pv 3)) de_int (fun _ _ => rfl))))) pa_nil)) pa_nil))) (de_cb cd_len (pe_callB call_len rfl T.n_len boot_len (da_cons (de_var (pv 0)) da_nil))) (nomark _)))))), fun ds n PP R h => ?_⟩) (fun ds n PP R h => ?_)
  · obtain ⟨d, ps, po, rfl, hd, k⟩ := h
    refine ⟨rfl, rfl, ?_⟩
    rcases tup_orK hd.kd with ⟨xs, rfl⟩ | ⟨t, e, e2⟩
    · obtain ⟨l, hk⟩ := hd.inn
      have k : PP (.bl (xs.all (rowOk ps po) && decide ((textsOf (xs.map firstOf)).Nodup))) n := k
      refine ⟨fun i ρ' m => ∃ s : Sl, ρ' = [.val (.tup xs), .val (namesD ps), .val (namesO po), s] ∧ m = n ∧ ∀ x ∈ xs.take i, rowOk ps po x = true, ⟨.no, rfl, rfl, fun x hx => by simp at hx⟩, ?_, ?_⟩
      · rintro i a ρ' m ha ⟨s, rfl, rfl, hi⟩
        have am : a ∈ xs := List.mem_of_getElem? ha
        have ka := hk a am
        have no : rowOk ps po a = false → PP (.bl false) m := fun z => by
          have e : xs.all (rowOk ps po) = false := List.all_eq_false.mpr ⟨a, am, by rw [z]; exact Bool.false_ne_true⟩
          rw [e, Bool.false_and] at k
          exact k
        refine ⟨a, 2, rfl, ka.kd, ?_⟩
        cases c : isTup a 2 with
        | false => exact no (by
            cases z : rowOk ps po a with
            | false => rfl
            | true =>
              obtain ⟨b, e, rfl, _⟩ := rowOk_of z
              cases c)
        | true =>
          obtain ⟨a1, a2, rfl⟩ := pair_of c
          obtain ⟨_, kk⟩ := Kn.inn (k := 0) ka
          refine ⟨a1, ps, rfl, kk a1 (by simp), ?_⟩
          have hr : rowOk ps po (.tup [a1, a2]) = (isPlace a1 ps && isPartO a2 po) := rfl
          cases c1 : isPlace a1 ps with
          | false => exact no (by rw [hr, c1, Bool.false_and])
          | true =>
            refine ⟨a2, po, rfl, kk a2 (by simp), ?_⟩
            cases c2 : isPartO a2 po with
            | false => exact no (by rw [hr, c2, Bool.and_false])
            | true =>
              refine ⟨_, rfl, rfl, fun x hx => ?_⟩
              rw [List.take_add_one, ha] at hx
              rcases List.mem_append.mp hx with z | z
              · exact hi x z
              · simp at z
                rw [z, hr, c1, c2]
                rfl
      · rintro ρ' m ⟨s, rfl, rfl, hi⟩
        rw [List.take_length] at hi
        have al : xs.all (rowOk ps po) = true := List.all_eq_true.mpr hi
        rw [al, Bool.true_and] at k
        have nm : ∀ x ∈ xs, isNameD (firstOf x) = true := fun x hx => by
          obtain ⟨a, b, rfl, h1, _⟩ := rowOk_of (hi x hx)
          exact h1
        refine compI_map firstOf (fun p hp Q q => ?_) ?_
        · obtain ⟨a, b, rfl, _⟩ := rowOk_of (hi p hp)
          exact q
        · have e := names_first nm
          rw [e]
          have e2 : (textsOf (xs.map firstOf)).length = xs.length := by
            have z := congrArg List.length e
            rw [List.length_map, List.length_map] at z
            exact z.symm
          refine txts_map _ ⟨by rw [e2]; exact l, ⟨cmp_fl rfl, cmp_fl rfl⟩, ?_⟩
          rw [← e2, set_len]
          exact k
    · refine opt_no e ?_
      show if (!isT "tuple" t) = true then _ else _
      rw [e2]
      have no : areRows d ps po = false := by cases d <;> first | rfl | (cases e; cases e2)
      rw [no] at k
      exact iteT k
  · obtain ⟨d, ps, po, rfl, _⟩ := h
    rfl
def isChange (ps : List Str) (po : Option (List Str)) : Dat → Bool
  | .tup [.str x, p] => isPlace p ps && decide (x = "take")
  | .tup [.str x, p, q] => isPlace p ps && (if x = "swap" then isPlace q ps else decide (x = "put" ∨ x = "push") && isPartO q po)
  | _ => false
theorem isChange_of {ps : List Str} {po : Option (List Str)} {d : Dat} (h : isChange ps po d = true) : (∃ p, d = .tup [.str "take", p] ∧ isPlace p ps = true) ∨ (∃ p q, d = .tup [.str "swap", p, q] ∧ isPlace p ps = true ∧ isPlace q ps = true) ∨ ∃ x p q, d = .tup [.str x, p, q] ∧ (x = "put" ∨ x = "push") ∧ isPlace p ps = true ∧ isPartO q po = true := by
  unfold isChange at h
  split at h
  · rw [Bool.and_eq_true, decide_eq_true_eq] at h
    obtain ⟨h1, rfl⟩ := h
    exact .inl ⟨_, rfl, h1⟩
  · rw [Bool.and_eq_true] at h
    split at h
    · rename_i c
      subst c
      exact .inr (.inl ⟨_, _, rfl, h.1, h.2⟩)
    · have z := h.2
      rw [Bool.and_eq_true, decide_eq_true_eq] at z
      exact .inr (.inr ⟨_, _, _, rfl, z.1, h.1, z.2⟩)
  · cases h
def spChange : DSp := fun ds n Q _ => ∃ d ps po, ds = [d, namesD ps, namesO po] ∧ Kn 1 d ∧ Q (.bl (isChange ps po d)) n
theorem isChange_len {ps : List Str} {po : Option (List Str)} {xs : List Dat} (h2 : xs.length ≠ 2) (h3 : xs.length ≠ 3) : isChange ps po (.tup xs) = false := by
  cases z : isChange ps po (.tup xs) with
  | false => rfl
  | true => rcases isChange_of z with ⟨_, h, _⟩ | ⟨_, _, h, _⟩ | ⟨_, _, _, h, _⟩ <;> (injection h with h; subst h; simp at h2 h3)
theorem eqD_str (x y : Str) : eqD (.str x) (.str y) = (x == y) := rfl
theorem sc_is_change : FnScope ["value", "places", "parts"] ["value", "places", "parts"] (defScope (top 21)) := ⟨rfl, rfl, rfl, by decide +kernel, rfl, by decide +kernel, by decide +kernel⟩
theorem ok_is_change {G : Bool} (F : Has K mg "is_change" (top 21)) (T : Blt mg) (Y : CstC K mg) (D_is_place : Df P w K mg base false 2 "is_place" (LSp K TT spPlace)) (D_is_part_changes : Df P w K mg base false 2 "is_part_changes" (LSp K TT spPartO)) : Df P w K mg base G 3 "is_change" (LSp K TT spChange) := by
  refine dat_ok F (fun f fd F => F.binds (fun _ _ _ _ _ _ us hl => by obtain ⟨x0, x1, x2, rfl⟩ := us3 hl; rfl)) sc_is_change (fun f cdv A outer s H E hr hG => ⟨_, (dss_cons (ds_if (PW.pt (dw_or (dt_not (dt_val (de_cb (cd_isT (T := "tuple") (by simp)) (pe_callB call_isi rfl T.n_isinstance boot_isinstance (da_cons (de_var (pv 0)) (da_cons (de_c (pe_bltn (v := .ty "tuple") rfl T.n_tuple boot_tuple rfl) (fun _ _ => .ty _)) da_nil)))))) (dw_or (dt_cmp (op_notInAny (units65 hr)) od_notInAny (de_cb cd_len (pe_callB call_len rfl T.n_len boot_len (da_cons (de_var (pv 0)) da_nil))) (de_tup (da_cons (de_g rfl Y.g_PAIR_changes) (da_cons (de_g rfl Y.g_TRIPLE) da_nil))) (by rfl)) (dw_or1 (dt_not (dt_val (de_cb (cd_isT (T := "str") (by simp)) (pe_callB call_isi rfl T.n_isinstance boot_isinstance (da_cons (de_ix ix_seq od_ix (de_var (pv 0)) de_int (fun _ _ => rfl)) (da_cons (de_c (pe_bltn (v := .ty "str") rfl T.n_str boot_str rfl) (fun _ _ => .ty _)) da_nil)))))))))) (dss_one (ds_ret de_bl)) dss_nil)
      (dss_cons (ds_if (dt_not (dt_val (de_call D_is_place hr (by first | decide | omega) (by first | exact hG | (intro z; cases z)) rfl passL (da_cons (de_ix ix_seq od_ix (de_var (pv 0)) de_int (fun _ _ => rfl)) (da_cons (de_var (pv 1)) da_nil))))) (dss_one (ds_ret de_bl)) dss_nil)
      (dss_cons (ds_if (dt_cmp (op_eqDD hr.units) od_eq (de_cb cd_len (pe_callB call_len rfl T.n_len boot_len (da_cons (de_var (pv 0)) da_nil))) (de_g rfl Y.g_PAIR_changes) (nomark _)) (dss_one (ds_ret (de_cmp (op_eqDD hr.units) od_eq (de_ix ix_seq od_ix (de_var (pv 0)) de_int (fun _ _ => rfl)) (de_g rfl Y.g_TAKE) (nomark _)))) dss_nil)
      (dss_cons (ds_if (dt_cmp (op_eqDD hr.units) od_eq (de_ix ix_seq od_ix (de_var (pv 0)) de_int (fun _ _ => rfl)) (de_g rfl Y.g_SWAP) (nomark _)) (dss_one (ds_ret (de_call D_is_place hr (by first | decide | omega) (by first | exact hG | (intro z; cases z)) rfl passL (da_cons (de_ix ix_seq od_ix (de_var (pv 0)) de_int (fun _ _ => rfl)) (da_cons (de_var (pv 1)) da_nil))))) dss_nil)
      (dss_one (ds_ret (de_and (de_cmp (op_inAny (units65 hr)) od_inAny (de_ix ix_seq od_ix (de_var (pv 0)) de_int (fun _ _ => rfl)) (de_tup (da_cons (de_g rfl Y.g_PUT) (da_cons (de_g rfl Y.g_PUSH) da_nil))) (by rfl)) (de_one (de_call D_is_part_changes hr (by first | decide | omega) (by first | exact hG | (intro z; cases z)) rfl passL (da_cons (de_ix ix_seq od_ix (de_var (pv 0)) de_int (fun _ _ => rfl)) (da_cons (de_var (pv 2)) da_nil))))))))))), fun ds n PP R h => ?_⟩) (fun ds n PP R h => ?_)
  · obtain ⟨d, ps, po, rfl, hd, k⟩ := h
    refine ⟨rfl, rfl, ?_⟩
    rcases tup_orK hd.kd with ⟨xs, rfl⟩ | ⟨t, e, e2⟩
    · obtain ⟨l, hk⟩ := hd.inn
      have sz : (2 : Nat) ≤ sizeLine := by decide +kernel
      match xs, hk, k with
      | [], _, k => exact ⟨sz, .inr ⟨⟨rfl, rfl⟩, by rw [isChange_len (by decide) (by decide)] at k; exact k⟩⟩
      | [a], _, k => exact ⟨sz, .inr ⟨⟨rfl, rfl⟩, by rw [isChange_len (by simp) (by simp)] at k; exact k⟩⟩
      | a :: b :: c :: e :: r, _, k =>
        refine ⟨sz, .inr ⟨⟨rfl, rfl⟩, ?_⟩⟩
        have ne : ([Dat.int 2, Dat.int 3].any fun y => eqF y (.int ((a :: b :: c :: e :: r).length : Nat))) = false := by
          show (((2 : Int) == ((r.length + 1 + 1 + 1 + 1 : Nat) : Int)) || (((3 : Int) == ((r.length + 1 + 1 + 1 + 1 : Nat) : Int)) || false)) = false
          rw [beq_eq_false_iff_ne.mpr (by omega), beq_eq_false_iff_ne.mpr (by omega)]
          rfl
        rw [ne]
        have no : isChange ps po (.tup (a :: b :: c :: e :: r)) = false := isChange_len (by simp) (by simp)
        rw [no] at k
        exact k
      | [a, b], hk, k =>
        refine ⟨sz, .inr ⟨⟨rfl, rfl⟩, ?_⟩⟩
        refine ⟨rfl, ?_⟩
        rcases str_orK (hk a (by simp)).kd with ⟨x, rfl⟩ | ⟨t, e, e2⟩
        · refine ⟨b, ps, rfl, (hk b (by simp)).kd, ?_⟩
          replace k : PP (.bl (isPlace b ps && decide (x = "take"))) n := k
          cases c : isPlace b ps with
          | false =>
            rw [c, Bool.false_and] at k
            exact k
          | true =>
            rw [c, Bool.true_and] at k
            refine ⟨⟨cmp_fl rfl, cmp_fl rfl⟩, ⟨cmp_fl rfl, cmp_fl rfl⟩, ?_⟩
            rw [eqD_str]
            exact k
        · refine opt_no e ?_
          show if (!isT "str" t) = true then _ else _
          rw [e2]
          have no : isChange ps po (.tup [a, b]) = false := by cases a <;> first | rfl | (cases e; cases e2)
          rw [no] at k
          exact iteT k
      | [a, b, c], hk, k =>
        refine ⟨sz, .inr ⟨⟨rfl, rfl⟩, ?_⟩⟩
        refine ⟨rfl, ?_⟩
        rcases str_orK (hk a (by simp)).kd with ⟨x, rfl⟩ | ⟨t, e, e2⟩
        · refine ⟨b, ps, rfl, (hk b (by simp)).kd, ?_⟩
          replace k : PP (.bl (isPlace b ps && (if x = "swap" then isPlace c ps else decide (x = "put" ∨ x = "push") && isPartO c po))) n := k
          cases c1 : isPlace b ps with
          | false =>
            rw [c1, Bool.false_and] at k
            exact k
          | true =>
            rw [c1, Bool.true_and] at k
            refine ⟨⟨cmp_fl rfl, cmp_fl rfl⟩, ⟨cmp_fl rfl, cmp_fl rfl⟩, ?_⟩
            rw [eqD_str]
            by_cases cs : x = "swap"
            · rw [if_pos cs] at k
              subst cs
              exact ⟨c, ps, rfl, (hk c (by simp)).kd, k⟩
            · rw [if_neg cs] at k
              rw [beq_eq_false_iff_ne.mpr cs]
              refine ⟨sz, .inr (.inl ⟨⟨rfl, rfl⟩, ?_⟩)⟩
              have ei : ([Dat.str "put", Dat.str "push"].any fun y => eqF y (.str x)) = decide (x = "put" ∨ x = "push") := by
                show ((("put" : Str) == x) || ((("push" : Str) == x) || false)) = _
                by_cases c2 : x = "put"
                · subst c2
                  rfl
                · by_cases c3 : x = "push"
                  · subst c3
                    rfl
                  · rw [beq_eq_false_iff_ne.mpr fun z => c2 z.symm, beq_eq_false_iff_ne.mpr fun z => c3 z.symm, decide_eq_false fun z => z.elim c2 c3]
                    rfl
              rw [ei]
              cases c4 : decide (x = "put" ∨ x = "push") with
              | false =>
                rw [c4, Bool.false_and] at k
                exact k
              | true =>
                rw [c4, Bool.true_and] at k
                exact ⟨c, po, rfl, (hk c (by simp)).kd, k⟩
        · refine opt_no e ?_
          show if (!isT "str" t) = true then _ else _
          rw [e2]
          have no : isChange ps po (.tup [a, b, c]) = false := by cases a <;> first | rfl | (cases e; cases e2)
          rw [no] at k
          exact iteT k
    · refine opt_no e ?_
      show if (!isT "tuple" t) = true then _ else _
      rw [e2]
      have no : isChange ps po d = false := by cases d <;> first | rfl | (cases e; cases e2)
      rw [no] at k
      exact iteT k
  · obtain ⟨d, ps, po, rfl, _⟩ := h
    rfl
theorem areNames_all {xs : List Dat} {lo hi : Int} (h : areNames (.tup xs) lo hi = true) : xs.all isNameD = true ∧ (textsOf xs).Nodup ∧ lo ≤ xs.length ∧ (xs.length : Int) ≤ hi := by
  unfold areNames at h
  rw [Bool.and_eq_true, Bool.and_eq_true, Bool.and_eq_true, decide_eq_true_eq, decide_eq_true_eq, decide_eq_true_eq] at h
  exact ⟨h.1.2, h.2, h.1.1.1, h.1.1.2⟩
end
end Aim
namespace Aim
open PySem PySem.Spec PyProof.Rows L2 RZ
open LamX (TabB)
section
variable {P : Program} {w : World} {K : PySem.W.Frag} {mg : Str → Option Value} {base : Heap} {TT : List (Addr × Str)}
structure CstP (K : PySem.W.Frag) (mg : Str → Option Value) : Prop where
  g_ACTS : GC K mg "ACTS" (.tup [.str "down", .str "up"])
  g_NOTHING : GC K mg "NOTHING" (.str "")
  g_MOST_PLACES : GC K mg "MOST_PLACES" (.int 4)
  g_MOST_PARTS : GC K mg "MOST_PARTS" (.int 6)
  g_MOST_ROOMS : GC K mg "MOST_ROOMS" (.int 4)
  g_MOST_UPDATES : GC K mg "MOST_UPDATES" (.int 3)
  g_MOST_CHANGES : GC K mg "MOST_CHANGES" (.int 3)
  g_MOST_NAMES : GC K mg "MOST_NAMES" (.int 18)
  g_MOST_TICKS : GC K mg "MOST_TICKS" (.int 9)
  g_WAY : GC K mg "WAY" (.int 2)
  g_PART : GC K mg "PART" (.int 3)
  g_UPDATE : GC K mg "UPDATE" (.int 4)
  g_ROOM : GC K mg "ROOM" (.int 4)
theorem all_map_id {ds : List Dat} {f : Dat → Bool} : (ds.map f).all id = ds.all f := by
  rw [List.all_map]
  rfl
theorem triple_of {d : Dat} (h : isTup d 3 = true) : ∃ a b c, d = .tup [a, b, c] := by
  obtain ⟨xs, rfl, hl⟩ := isTup_of h
  match xs, hl with
  | [a, b, c], _ => exact ⟨a, b, c, rfl⟩
theorem four_of {d : Dat} (h : isTup d 4 = true) : ∃ a b c e, d = .tup [a, b, c, e] := by
  obtain ⟨xs, rfl, hl⟩ := isTup_of h
  match xs, hl with
  | [a, b, c, e], _ => exact ⟨a, b, c, e, rfl⟩
def isAct : Dat → Bool
  | .str x => decide (x = "down" ∨ x = "up")
  | _ => false
def isNo : Dat → Bool
  | .str x => decide (x = "")
  | _ => false
def isPartRow : Dat → Bool
  | .tup [a, b, c] => isNameD a && isAct b && (isNameD c || isNo c)
  | _ => false
theorem isPartRow_of {d : Dat} (h : isPartRow d = true) : ∃ x b z, d = .tup [.str x, b, .str z] ∧ isNameS x = true ∧ isAct b = true ∧ (isNameS z = true ∨ z = "") := by
  unfold isPartRow at h
  split at h
  · rename_i a b c
    rw [Bool.and_eq_true, Bool.and_eq_true, Bool.or_eq_true] at h
    obtain ⟨⟨h1, h2⟩, h3⟩ := h
    obtain ⟨x, rfl, hx⟩ := isNameD_of h1
    rcases h3 with h3 | h3
    · obtain ⟨z, rfl, hz⟩ := isNameD_of h3
      exact ⟨x, b, z, rfl, hx, h2, .inl hz⟩
    · cases c <;> first
        | exact ⟨x, b, _, rfl, hx, h2, .inr (of_decide_eq_true h3)⟩
        | cases h3
  · cases h
def spPartRow : DSp := fun ds n Q _ => ∃ d, ds = [d] ∧ Kn 1 d ∧ Q (.bl (isPartRow d)) n
theorem sc_is_part_programs : FnScope ["value"] ["value"] (defScope (top 52)) := ⟨rfl, rfl, rfl, by decide +kernel, rfl, by decide +kernel, by decide +kernel⟩
theorem ok_is_part_programs {G : Bool} (F : HasA K mg "is_part_programs" "is_part" (top 52)) (T : Blt mg) (Y : CstP K mg) (D_is_tuple : Df P w K mg base false 1 "is_tuple" (LSp K TT spIsTup)) (D_is_name : Df P w K mg base false 1 "is_name" (LSp K TT spNameD)) : Df P w K mg base G 2 "is_part_programs" (LSp K TT spPartRow) := by
  refine dat_okA F (fun f fd F => F.binds (fun _ _ _ _ _ _ us hl => by obtain ⟨x0, rfl⟩ := us1 hl; rfl)) sc_is_part_programs (fun f cdv A outer s H E hr hG => ⟨_, (dss_cons (ds_if (PW.pt (dw_or (dt_not (dt_val (de_call D_is_tuple hr (by first | decide | omega) (by first | exact hG | (intro z; cases z)) rfl passL (da_cons (de_var (pv 0)) (da_cons (de_g rfl Y.g_PART) da_nil))))) (dw_or1 (dt_not (dt_val (de_call D_is_name hr (by first | decide | omega) (by first | exact hG | (intro z; cases z)) rfl passL (da_cons (de_ix ix_seq od_ix (de_var (pv 0)) de_int (fun _ _ => rfl)) da_nil))))))) (dss_one (ds_ret de_bl)) dss_nil)
      (dss_cons (ds_if (PW.pt (dw_or (dt_not (dt_val (de_cb (cd_isT (T := "str") (by simp)) (pe_callB call_isi rfl T.n_isinstance boot_isinstance (da_cons (de_ix ix_seq od_ix (de_var (pv 0)) de_int (fun _ _ => rfl)) (da_cons (de_c (pe_bltn (v := .ty "str") rfl T.n_str boot_str rfl) (fun _ _ => .ty _)) da_nil)))))) (dw_or1 (dt_cmp (op_notInAny (units65 hr)) od_notInAny (de_ix ix_seq od_ix (de_var (pv 0)) de_int (fun _ _ => rfl)) (de_g rfl Y.g_ACTS) (by rfl))))) (dss_one (ds_ret de_bl)) dss_nil)
      (dss_one (ds_ret (de_or (de_call D_is_name hr (by first | decide | omega) (by first | exact hG | (intro z; cases z)) rfl passL (da_cons (de_ix ix_seq od_ix (de_var (pv 0)) de_int (fun _ _ => rfl)) da_nil)) (de_one (de_and (de_cb (cd_isT (T := "str") (by simp)) (pe_callB call_isi rfl T.n_isinstance boot_isinstance (da_cons (de_ix ix_seq od_ix (de_var (pv 0)) de_int (fun _ _ => rfl)) (da_cons (de_c (pe_bltn (v := .ty "str") rfl T.n_str boot_str rfl) (fun _ _ => .ty _)) da_nil)))) (de_one (de_cmp (op_eqDD hr.units) od_eq (de_ix ix_seq od_ix (de_var (pv 0)) de_int (fun _ _ => rfl)) (de_g rfl Y.g_NOTHING) (nomark _)))))))))), fun ds n PP R h => ?_⟩) (fun ds n PP R h => ?_)
  · obtain ⟨d, rfl, hd, k⟩ := h
    refine ⟨rfl, d, 3, rfl, hd.kd, ?_⟩
    cases c : isTup d 3 with
    | false =>
      have no : isPartRow d = false := by
        cases z : isPartRow d with
        | false => rfl
        | true =>
          obtain ⟨_, _, _, rfl, _⟩ := isPartRow_of z
          cases c
      rw [no] at k
      exact k
    | true =>
      obtain ⟨a, b, z, rfl⟩ := triple_of c
      obtain ⟨_, kk⟩ := Kn.inn (k := 0) hd
      replace k : PP (.bl (isNameD a && isAct b && (isNameD z || isNo z))) n := k
      refine ⟨a, rfl, kk a (by simp), ?_⟩
      cases c1 : isNameD a with
      | false =>
        rw [c1, Bool.false_and, Bool.false_and] at k
        exact k
      | true =>
        rw [c1, Bool.true_and] at k
        refine ⟨rfl, ?_⟩
        rcases str_orK (show Kd b from kk b (by simp)) with ⟨x, rfl⟩ | ⟨t, e, e2⟩
        · refine .inr ⟨⟨rfl, rfl⟩, ?_⟩
          have ei : ([Dat.str "down", Dat.str "up"].any fun y => eqF y (.str x)) = isAct (.str x) := by
            show ((("down" : Str) == x) || ((("up" : Str) == x) || false)) = decide (x = "down" ∨ x = "up")
            by_cases c2 : x = "down"
            · subst c2
              rfl
            · by_cases c3 : x = "up"
              · subst c3
                rfl
              · rw [beq_eq_false_iff_ne.mpr fun z => c2 z.symm, beq_eq_false_iff_ne.mpr fun z => c3 z.symm, decide_eq_false fun z => z.elim c2 c3]
                rfl
          rw [ei]
          cases c2 : isAct (.str x) with
          | false =>
            rw [c2, Bool.false_and] at k
            exact k
          | true =>
            rw [c2, Bool.true_and] at k
            refine ⟨z, rfl, kk z (by simp), ?_⟩
            cases c3 : isNameD z with
            | true =>
              rw [c3, Bool.true_or] at k
              exact k
            | false =>
              rw [c3, Bool.false_or] at k
              refine ⟨rfl, ?_⟩
              rcases str_orK (show Kd z from kk z (by simp)) with ⟨y, rfl⟩ | ⟨t, e, e2⟩
              · refine ⟨⟨cmp_fl rfl, cmp_fl rfl⟩, ?_⟩
                rw [eqD_str]
                exact k
              · refine opt_no e ?_
                rw [e2]
                have no : isNo z = false := by cases z <;> first | rfl | (cases e; cases e2)
                rw [no] at k
                exact k
        · refine opt_no e ?_
          show if (!isT "str" t) = true then _ else _
          rw [e2]
          have no : isAct b = false := by cases b <;> first | rfl | (cases e; cases e2)
          rw [no, Bool.false_and] at k
          exact iteT k
  · obtain ⟨d, rfl, _⟩ := h
    rfl
def areParts (d : Dat) : Bool := match d with
  | .tup xs => xs.all isPartRow && areNames (.tup (xs.map firstOf)) 1 6
  | _ => false
theorem first_kd {xs : List Dat} {k : Nat} (h : ∀ x ∈ xs, Kn (k + 1) x) : ∀ x ∈ xs, Kn k (firstOf x) := fun x hx => by
  have z := h x hx
  unfold firstOf
  split
  · exact (z.2 _ rfl).2 _ (by simp)
  · exact z.down
theorem firsts_kd {xs : List Dat} (h : ∀ x ∈ xs, Kn 1 x) : KdT (.tup (xs.map firstOf)) := ⟨rfl, fun ys e y hy => by
  cases e
  obtain ⟨x, hx, rfl⟩ := List.mem_map.mp hy
  exact first_kd (k := 0) h x hx⟩
def spParts : DSp := fun ds n Q _ => ∃ d, ds = [d] ∧ Kn 2 d ∧ Q (.bl (areParts d)) n
theorem sc_are_parts : FnScope ["value", "row"] ["value"] (defScope (top 54)) := ⟨rfl, rfl, rfl, by decide +kernel, rfl, by decide +kernel, by decide +kernel⟩
theorem ok_are_parts {G : Bool} (F : Has K mg "are_parts" (top 54)) (T : Blt mg) (Y : CstP K mg) (D_is_part_programs : Df P w K mg base false 2 "is_part_programs" (LSp K TT spPartRow)) (D_are_names : Df P w K mg base false 2 "are_names" (LSp K TT spAreNames)) : Df P w K mg base G 3 "are_parts" (LSp K TT spParts) := by
  refine dat_ok F (fun f fd F => F.binds (fun _ _ _ _ _ _ us hl => by obtain ⟨x0, rfl⟩ := us1 hl; rfl)) sc_are_parts (fun f cdv A outer s H E hr hG => ⟨_, (dss_cons (ds_if (PW.pt (dw_or (dt_not (dt_val (de_cb (cd_isT (T := "tuple") (by simp)) (pe_callB call_isi rfl T.n_isinstance boot_isinstance (da_cons (de_var (pv 0)) (da_cons (de_c (pe_bltn (v := .ty "tuple") rfl T.n_tuple boot_tuple rfl) (fun _ _ => .ty _)) da_nil)))))) (dw_or1 (dt_not (dt_val (de_cb cd_all (pe_callB (cr_all rfl) rfl T.n_all boot_all (da_cons (de_fr (lf_lcI (own := [("row", 1)]) rfl sc_are_parts.nd (di_tup (de_var (pv 0))) (blkOk_by rfl) (fun _ _ _ _ _ => (dg_name (pg_name (i := 1) sc_are_parts.nd rfl (Or.inl rfl) (Or.inr rfl)))) (fun _ _ _ _ _ => dts_nil) (fun _ _ _ _ _ => (de_call D_is_part_programs hr (by first | decide | omega) (by first | exact hG | (intro z; cases z)) rfl passL (da_cons (de_var (pv 1)) da_nil))))) da_nil)))))))) (dss_one (ds_ret de_bl)) dss_nil)
      (dss_one (ds_ret (de_call D_are_names hr (by first | decide | omega) (by first | exact hG | (intro z; cases z)) rfl passL (da_cons (de_cb cd_tup (pe_callTy call_tupleN rfl T.n_tuple boot_tuple (da_cons (de_fr (lf_lcI (own := [("row", 1)]) rfl sc_are_parts.nd (di_tup (de_var (pv 0))) (blkOk_by rfl) (fun _ _ _ _ _ => (dg_name (pg_name (i := 1) sc_are_parts.nd rfl (Or.inl rfl) (Or.inr rfl)))) (fun _ _ _ _ _ => dts_nil) (fun _ _ _ _ _ => (de_ix ix_seq od_ix (de_var (pv 1)) de_int (fun _ _ => rfl))))) da_nil))) (da_cons de_int (da_cons (de_g rfl Y.g_MOST_PARTS) da_nil))))))), fun ds n PP R h => ?_⟩) (fun ds n PP R h => ?_)
  · obtain ⟨d, rfl, hd, k⟩ := h
    refine ⟨rfl, rfl, ?_⟩
    rcases tup_orK hd.kd with ⟨xs, rfl⟩ | ⟨t, e, e2⟩
    · obtain ⟨l, hk⟩ := hd.inn
      replace k : PP (.bl (xs.all isPartRow && areNames (.tup (xs.map firstOf)) 1 6)) n := k
      refine compI_bools isPartRow (fun p hp Q q => ⟨p, rfl, hk p hp, q⟩) ?_
      rw [all_map_id]
      cases c : xs.all isPartRow with
      | false =>
        rw [c, Bool.false_and] at k
        exact k
      | true =>
        rw [c, Bool.true_and] at k
        refine compI_map firstOf (fun p hp Q q => ?_) ?_
        · obtain ⟨x, b, z, rfl, _⟩ := isPartRow_of (List.all_eq_true.mp c p hp)
          exact q
        · exact ⟨_, 1, 6, rfl, firsts_kd hk, by decide, k⟩
    · refine opt_no e ?_
      show if (!isT "tuple" t) = true then _ else _
      rw [e2]
      have no : areParts d = false := by cases d <;> first | rfl | (cases e; cases e2)
      rw [no] at k
      exact iteT k
  · obtain ⟨d, rfl, _⟩ := h
    rfl
def partsD (l : List (Str × Dat × Str)) : Dat := .tup (l.map fun p => .tup [.str p.1, p.2.1, .str p.2.2])
def namesP (l : List (Str × Dat × Str)) : List Str := l.map (·.1)
def doersP (l : List (Str × Dat × Str)) : List Str := (l.filter fun p => decide (p.2.2 ≠ ("" : Str))).map (·.1)
def areChanges (d : Dat) (ps : List Str) (po : Option (List Str)) : Bool := match d with
  | .tup xs => decide (1 ≤ xs.length) && decide (xs.length ≤ 3) && xs.all (isChange ps po)
  | _ => false
def spChanges : DSp := fun ds n Q _ => ∃ d ps po, ds = [d, namesD ps, namesO po] ∧ Kn 2 d ∧ Q (.bl (areChanges d ps po)) n
theorem le_nat (a : Int) (b : Nat) (z : Nat) (h : a = (z : Int)) : decide (a ≤ (b : Int)) = decide (z ≤ b) := by
  subst h
  by_cases c : z ≤ b
  · rw [decide_eq_true c, decide_eq_true (by omega)]
  · rw [decide_eq_false c, decide_eq_false (by omega)]
theorem ge_nat (a : Int) (b : Nat) (z : Nat) (h : a = (z : Int)) : decide ((b : Int) ≤ a) = decide (b ≤ z) := by
  subst h
  by_cases c : b ≤ z
  · rw [decide_eq_true c, decide_eq_true (by omega)]
  · rw [decide_eq_false c, decide_eq_false (by omega)]
theorem sc_are_changes : FnScope ["value", "places", "names", "change"] ["value", "places", "names"] (defScope (top 55)) := ⟨rfl, rfl, rfl, by decide +kernel, rfl, by decide +kernel, by decide +kernel⟩
theorem ok_are_changes {G : Bool} (F : Has K mg "are_changes" (top 55)) (T : Blt mg) (Y : CstP K mg) (D_is_change : Df P w K mg base false 3 "is_change" (LSp K TT spChange)) : Df P w K mg base G 4 "are_changes" (LSp K TT spChanges) := by
  refine dat_ok F (fun f fd F => F.binds (fun _ _ _ _ _ _ us hl => by obtain ⟨x0, x1, x2, rfl⟩ := us3 hl; rfl)) sc_are_changes (fun f cdv A outer s H E hr hG => ⟨_, (dss_cons (ds_if (PW.pt (dw_or (dt_not (dt_val (de_cb (cd_isT (T := "tuple") (by simp)) (pe_callB call_isi rfl T.n_isinstance boot_isinstance (da_cons (de_var (pv 0)) (da_cons (de_c (pe_bltn (v := .ty "tuple") rfl T.n_tuple boot_tuple rfl) (fun _ _ => .ty _)) da_nil)))))) (dw_or1 (dt_not (dt_chain op_le op_le (od_IB _) (od_IB _) de_int (de_cb cd_len (pe_callB call_len rfl T.n_len boot_len (da_cons (de_var (pv 0)) da_nil))) (de_g rfl Y.g_MOST_CHANGES)))))) (dss_one (ds_ret de_bl)) dss_nil)
      (dss_one (ds_ret (de_cb cd_all (pe_callB (cr_all rfl) rfl T.n_all boot_all (da_cons (de_fr (lf_lcI (own := [("change", 3)]) rfl sc_are_changes.nd (di_tup (de_var (pv 0))) (blkOk_by rfl) (fun _ _ _ _ _ => (dg_name (pg_name (i := 3) sc_are_changes.nd rfl (Or.inl rfl) (Or.inr rfl)))) (fun _ _ _ _ _ => dts_nil) (fun _ _ _ _ _ => (de_call D_is_change hr (by first | decide | omega) (by first | exact hG | (intro z; cases z)) rfl passL (da_cons (de_var (pv 3)) (da_cons (de_var (pv 1)) (da_cons (de_var (pv 2)) da_nil))))))) da_nil)))))), fun ds n PP R h => ?_⟩) (fun ds n PP R h => ?_)
  · obtain ⟨d, ps, po, rfl, hd, k⟩ := h
    refine ⟨rfl, rfl, ?_⟩
    rcases tup_orK hd.kd with ⟨xs, rfl⟩ | ⟨t, e, e2⟩
    · obtain ⟨l, hk⟩ := hd.inn
      replace k : PP (.bl (decide (1 ≤ xs.length) && decide (xs.length ≤ 3) && xs.all (isChange ps po))) n := k
      rw [← le_nat 1 xs.length 1 rfl, ← ge_nat 3 xs.length 3 rfl] at k
      refine ite2 (fun c => ?_) (fun c => ?_)
      · rw [c, Bool.true_and] at k
        refine ite2 (fun c2 => ?_) (fun c2 => ?_)
        · have c2 : decide ((xs.length : Int) ≤ 3) = false := by simpa using c2
          rw [c2, Bool.false_and] at k
          exact k
        · have c2 : decide ((xs.length : Int) ≤ 3) = true := by simpa using c2
          rw [c2, Bool.true_and] at k
          refine compI_bools (isChange ps po) (fun p hp Q q => ⟨p, ps, po, rfl, hk p hp, q⟩) ?_
          rw [all_map_id]
          exact k
      · rw [Bool.eq_false_iff.mpr c, Bool.false_and, Bool.false_and] at k
        exact k
    · refine opt_no e ?_
      show if (!isT "tuple" t) = true then _ else _
      rw [e2]
      have no : areChanges d ps po = false := by cases d <;> first | rfl | (cases e; cases e2)
      rw [no] at k
      exact iteT k
  · obtain ⟨d, ps, po, rfl, _⟩ := h
    rfl
def intOf : Dat → Int
  | .int i => i
  | _ => 0
def isUpd (ps : List Str) (po : Option (List Str)) : Dat → Bool
  | .tup [a, b, c, d] => isNameD a && isFrom b 0 9 && (isNon c || isFrom c (intOf b) 9) && areChanges d ps po
  | _ => false
theorem isFrom_of {d : Dat} {lo hi : Int} (h : isFrom d lo hi = true) : ∃ i, d = .int i ∧ lo ≤ i ∧ i ≤ hi := by
  cases d <;> first
    | (have h2 := Bool.and_eq_true_iff.mp h; exact ⟨_, rfl, of_decide_eq_true h2.1, of_decide_eq_true h2.2⟩)
    | cases h
theorem isUpd_of {ps : List Str} {po : Option (List Str)} {d : Dat} (h : isUpd ps po d = true) : ∃ x b c e, d = .tup [.str x, b, c, e] ∧ isNameS x = true ∧ isFrom b 0 9 = true ∧ (isNon c || isFrom c (intOf b) 9) = true ∧ areChanges e ps po = true := by
  unfold isUpd at h
  split at h
  · rename_i a b c e
    rw [Bool.and_eq_true, Bool.and_eq_true, Bool.and_eq_true] at h
    obtain ⟨x, rfl, hx⟩ := isNameD_of h.1.1.1
    exact ⟨x, b, c, e, rfl, hx, h.1.1.2, h.1.2, h.2⟩
  · cases h
def spUpd : DSp := fun ds n Q _ => ∃ d ps po, ds = [d, namesD ps, namesO po] ∧ Kn 3 d ∧ Q (.bl (isUpd ps po d)) n
theorem sc_is_update_row : FnScope ["value", "places", "names"] ["value", "places", "names"] (defScope (top 56)) := ⟨rfl, rfl, rfl, by decide +kernel, rfl, by decide +kernel, by decide +kernel⟩
theorem ok_is_update_row {G : Bool} (F : Has K mg "is_update_row" (top 56)) (T : Blt mg) (Y : CstP K mg) (D_is_tuple : Df P w K mg base false 1 "is_tuple" (LSp K TT spIsTup)) (D_is_name : Df P w K mg base false 1 "is_name" (LSp K TT spNameD)) (D_is_from : Df P w K mg base false 2 "is_from" (LSp K TT spIsFrom)) (D_are_changes : Df P w K mg base false 4 "are_changes" (LSp K TT spChanges)) : Df P w K mg base G 5 "is_update_row" (LSp K TT spUpd) := by
  refine dat_ok F (fun f fd F => F.binds (fun _ _ _ _ _ _ us hl => by obtain ⟨x0, x1, x2, rfl⟩ := us3 hl; rfl)) sc_is_update_row (fun f cdv A outer s H E hr hG => ⟨_, (dss_cons (ds_if (PW.pt (dw_or (dt_not (dt_val (de_call D_is_tuple hr (by first | decide | omega) (by first | exact hG | (intro z; cases z)) rfl passL (da_cons (de_var (pv 0)) (da_cons (de_g rfl Y.g_UPDATE) da_nil))))) (dw_or (dt_not (dt_val (de_call D_is_name hr (by first | decide | omega) (by first | exact hG | (intro z; cases z)) rfl passL (da_cons (de_ix ix_seq od_ix (de_var (pv 0)) de_int (fun _ _ => rfl)) da_nil)))) (dw_or1 (dt_not (dt_val (de_call D_is_from hr (by first | decide | omega) (by first | exact hG | (intro z; cases z)) rfl passL (da_cons (de_ix ix_seq od_ix (de_var (pv 0)) de_int (fun _ _ => rfl)) (da_cons de_int (da_cons (de_g rfl Y.g_MOST_TICKS) da_nil)))))))))) (dss_one (ds_ret de_bl)) dss_nil)
      (dss_cut (ds_if (PW.pt (dw_and (dt_notN (de_ix ix_seq od_ix (de_var (pv 0)) de_int (fun _ _ => rfl))) (dw_and1 (dt_not (dt_val (de_call D_is_from hr (by first | decide | omega) (by first | exact hG | (intro z; cases z)) rfl passL (da_cons (de_ix ix_seq od_ix (de_var (pv 0)) de_int (fun _ _ => rfl)) (da_cons (de_ix ix_seq od_ix (de_var (pv 0)) de_int (fun _ _ => rfl)) (da_cons (de_g rfl Y.g_MOST_TICKS) da_nil))))))))) (dss_one (ds_ret de_bl)) dss_nil)
      (dss_one (ds_ret (de_call D_are_changes hr (by first | decide | omega) (by first | exact hG | (intro z; cases z)) rfl passL (da_cons (de_ix ix_seq od_ix (de_var (pv 0)) de_int (fun _ _ => rfl)) (da_cons (de_var (pv 1)) (da_cons (de_var (pv 2)) da_nil)))))))), fun ds n PP R h => ?_⟩) (fun ds n PP R h => ?_)
  · obtain ⟨d, ps, po, rfl, hd, k⟩ := h
    refine ⟨rfl, d, 4, rfl, hd.kd, ?_⟩
    cases c0 : isTup d 4 with
    | false =>
      have no : isUpd ps po d = false := by
        cases z : isUpd ps po d with
        | false => rfl
        | true =>
          obtain ⟨_, _, _, _, rfl, _⟩ := isUpd_of z
          cases c0
      rw [no] at k
      exact k
    | true =>
      obtain ⟨a, b, c, e, rfl⟩ := four_of c0
      obtain ⟨_, kk⟩ := Kn.inn (k := 2) hd
      replace k : PP (.bl (isNameD a && isFrom b 0 9 && (isNon c || isFrom c (intOf b) 9) && areChanges e ps po)) n := k
      refine ⟨a, rfl, (kk a (by simp)).kd, ?_⟩
      cases c1 : isNameD a with
      | false =>
        rw [c1, Bool.false_and, Bool.false_and, Bool.false_and] at k
        exact k
      | true =>
        rw [c1, Bool.true_and] at k
        refine ⟨b, 0, 9, rfl, (kk b (by simp)).kd, ?_⟩
        cases c2 : isFrom b 0 9 with
        | false =>
          rw [c2, Bool.false_and, Bool.false_and] at k
          exact k
        | true =>
          rw [c2, Bool.true_and] at k
          obtain ⟨i, rfl, _, _⟩ := isFrom_of c2
          refine ⟨fun ρ' m => ρ' = [.val (.tup [a, .int i, c, e]), .val (namesD ps), .val (namesO po)] ∧ m = n ∧ (isNon c || isFrom c i 9) = true, ?_, ?_⟩
          · show if (!isNon c) = true then _ else _
            cases c3 : isNon c with
            | true => exact ⟨rfl, rfl, by rw [Bool.true_or]⟩
            | false =>
              refine ⟨c, i, 9, rfl, (kk c (by simp)).kd, ?_⟩
              cases c4 : isFrom c i 9 with
              | false =>
                rw [c3, show isFrom c (intOf (.int i)) 9 = false from c4] at k
                exact k
              | true => exact ⟨rfl, rfl, rfl⟩
          · rintro ρ' m ⟨rfl, rfl, h3⟩
            replace k : PP (.bl ((isNon c || isFrom c i 9) && areChanges e ps po)) m := k
            rw [h3, Bool.true_and] at k
            exact ⟨e, ps, po, rfl, kk e (by simp), k⟩
  · obtain ⟨d, ps, po, rfl, _⟩ := h
    rfl
def areUpdates (d : Dat) (ps : List Str) (po : Option (List Str)) : Bool := match d with
  | .tup xs => decide (xs.length ≤ 3) && xs.all (isUpd ps po)
  | _ => false
theorem gt_nat (a : Int) (b : Nat) (z : Nat) (h : a = (z : Int)) : decide ((b : Int) > a) = !decide (b ≤ z) := by
  subst h
  by_cases c : b ≤ z
  · rw [decide_eq_true c, decide_eq_false (by omega)]
    rfl
  · rw [decide_eq_false c, decide_eq_true (by omega)]
    rfl
def spUpds : DSp := fun ds n Q _ => ∃ d ps po, ds = [d, namesD ps, namesO po] ∧ Kn 4 d ∧ Q (.bl (areUpdates d ps po)) n
theorem sc_are_updates : FnScope ["value", "places", "names", "row"] ["value", "places", "names"] (defScope (top 57)) := ⟨rfl, rfl, rfl, by decide +kernel, rfl, by decide +kernel, by decide +kernel⟩
theorem ok_are_updates {G : Bool} (F : Has K mg "are_updates" (top 57)) (T : Blt mg) (Y : CstP K mg) (D_is_update_row : Df P w K mg base false 5 "is_update_row" (LSp K TT spUpd)) : Df P w K mg base G 6 "are_updates" (LSp K TT spUpds) := by
  refine dat_ok F (fun f fd F => F.binds (fun _ _ _ _ _ _ us hl => by obtain ⟨x0, x1, x2, rfl⟩ := us3 hl; rfl)) sc_are_updates (fun f cdv A outer s H E hr hG => ⟨_, (dss_cons (ds_if (PW.pt (dw_or (dt_not (dt_val (de_cb (cd_isT (T := "tuple") (by simp)) (pe_callB call_isi rfl T.n_isinstance boot_isinstance (da_cons (de_var (pv 0)) (da_cons (de_c (pe_bltn (v := .ty "tuple") rfl T.n_tuple boot_tuple rfl) (fun _ _ => .ty _)) da_nil)))))) (dw_or1 (dt_cmp op_gt (od_IB _) (de_cb cd_len (pe_callB call_len rfl T.n_len boot_len (da_cons (de_var (pv 0)) da_nil))) (de_g rfl Y.g_MOST_UPDATES) (nomark _))))) (dss_one (ds_ret de_bl)) dss_nil)
      (dss_one (ds_ret (de_cb cd_all (pe_callB (cr_all rfl) rfl T.n_all boot_all (da_cons (de_fr (lf_lcI (own := [("row", 3)]) rfl sc_are_updates.nd (di_tup (de_var (pv 0))) (blkOk_by rfl) (fun _ _ _ _ _ => (dg_name (pg_name (i := 3) sc_are_updates.nd rfl (Or.inl rfl) (Or.inr rfl)))) (fun _ _ _ _ _ => dts_nil) (fun _ _ _ _ _ => (de_call D_is_update_row hr (by first | decide | omega) (by first | exact hG | (intro z; cases z)) rfl passL (da_cons (de_var (pv 3)) (da_cons (de_var (pv 1)) (da_cons (de_var (pv 2)) da_nil))))))) da_nil)))))), fun ds n PP R h => ?_⟩) (fun ds n PP R h => ?_)
  · obtain ⟨d, ps, po, rfl, hd, k⟩ := h
    refine ⟨rfl, rfl, ?_⟩
    rcases tup_orK hd.kd with ⟨xs, rfl⟩ | ⟨t, e, e2⟩
    · obtain ⟨l, hk⟩ := hd.inn
      replace k : PP (.bl (decide (xs.length ≤ 3) && xs.all (isUpd ps po))) n := k
      show if decide ((xs.length : Int) > 3) = true then _ else _
      rw [gt_nat 3 xs.length 3 rfl]
      cases c : decide (xs.length ≤ 3) with
      | false =>
        rw [c, Bool.false_and] at k
        exact k
      | true =>
        rw [c, Bool.true_and] at k
        refine compI_bools (isUpd ps po) (fun p hp Q q => ⟨p, ps, po, rfl, hk p hp, q⟩) ?_
        rw [all_map_id]
        exact k
    · refine opt_no e ?_
      show if (!isT "tuple" t) = true then _ else _
      rw [e2]
      have no : areUpdates d ps po = false := by cases d <;> first | rfl | (cases e; cases e2)
      rw [no] at k
      exact iteT k
  · obtain ⟨d, ps, po, rfl, _⟩ := h
    rfl
end
end Aim
namespace Aim
open PySem PySem.Spec PyProof.Rows L2 RZ
open LamX (TabB)
section
variable {P : Program} {w : World} {K : PySem.W.Frag} {mg : Str → Option Value} {base : Heap} {TT : List (Addr × Str)}
def wayOk (ds rs : List Str) : Dat → Bool
  | .tup [a, b] => memS a ds && isNameD b && memS b rs
  | _ => false
def areWays (d : Dat) (ds rs : List Str) : Bool := match d with
  | .tup xs => xs.all (fun x => isTup x 2) && areNames (.tup (xs.map firstOf)) 0 6 && xs.all (wayOk ds rs)
  | _ => false
def spWays : DSp := fun ds n Q _ => ∃ d ps rs, ds = [d, namesD ps, namesD rs] ∧ Kn 2 d ∧ Q (.bl (areWays d ps rs)) n
theorem sc_are_ways : FnScope ["value", "doers", "rooms", "way"] ["value", "doers", "rooms"] (defScope (top 58)) := ⟨rfl, rfl, rfl, by decide +kernel, rfl, by decide +kernel, by decide +kernel⟩
theorem ok_are_ways {G : Bool} (F : Has K mg "are_ways" (top 58)) (T : Blt mg) (Y : CstP K mg) (D_is_tuple : Df P w K mg base false 1 "is_tuple" (LSp K TT spIsTup)) (D_is_name : Df P w K mg base false 1 "is_name" (LSp K TT spNameD)) (D_are_names : Df P w K mg base false 2 "are_names" (LSp K TT spAreNames)) : Df P w K mg base G 3 "are_ways" (LSp K TT spWays) := by
  refine dat_ok F (fun f fd F => F.binds (fun _ _ _ _ _ _ us hl => by obtain ⟨x0, x1, x2, rfl⟩ := us3 hl; rfl)) sc_are_ways (fun f cdv A outer s H E hr hG => ⟨_, (dss_cons (ds_if (PW.pt (dw_or (dt_not (dt_val (de_cb (cd_isT (T := "tuple") (by simp)) (pe_callB call_isi rfl T.n_isinstance boot_isinstance (da_cons (de_var (pv 0)) (da_cons (de_c (pe_bltn (v := .ty "tuple") rfl T.n_tuple boot_tuple rfl) (fun _ _ => .ty _)) da_nil)))))) (dw_or1 (dt_not (dt_val (de_cb cd_all (pe_callB (cr_all rfl) rfl T.n_all boot_all (da_cons (de_fr (lf_lcI (own := [("way", 3)]) rfl sc_are_ways.nd (di_tup (de_var (pv 0))) (blkOk_by rfl) (fun _ _ _ _ _ => (dg_name (pg_name (i := 3) sc_are_ways.nd rfl (Or.inl rfl) (Or.inr rfl)))) (fun _ _ _ _ _ => dts_nil) (fun _ _ _ _ _ => (de_call D_is_tuple hr (by first | decide | omega) (by first | exact hG | (intro z; cases z)) rfl passL (da_cons (de_var (pv 3)) (da_cons (de_g rfl Y.g_WAY) da_nil)))))) da_nil)))))))) (dss_one (ds_ret de_bl)) dss_nil)
      (dss_cons (ds_if (dt_not (dt_val (de_call D_are_names hr (by first | decide | omega) (by first | exact hG | (intro z; cases z)) rfl passL (da_cons (de_cb cd_tup (pe_callTy call_tupleN rfl T.n_tuple boot_tuple (da_cons (de_fr (lf_lcI (own := [("way", 3)]) rfl sc_are_ways.nd (di_tup (de_var (pv 0))) (blkOk_by rfl) (fun _ _ _ _ _ => (dg_name (pg_name (i := 3) sc_are_ways.nd rfl (Or.inl rfl) (Or.inr rfl)))) (fun _ _ _ _ _ => dts_nil) (fun _ _ _ _ _ => (de_ix ix_seq od_ix (de_var (pv 3)) de_int (fun _ _ => rfl))))) da_nil))) (da_cons de_int (da_cons (de_g rfl Y.g_MOST_PARTS) da_nil)))))) (dss_one (ds_ret de_bl)) dss_nil)
      (dss_one (ds_ret (de_cb cd_all (pe_callB (cr_all rfl) rfl T.n_all boot_all (da_cons (de_fr (lf_lcI (own := [("way", 3)]) rfl sc_are_ways.nd (di_tup (de_var (pv 0))) (blkOk_by rfl) (fun _ _ _ _ _ => (dg_name (pg_name (i := 3) sc_are_ways.nd rfl (Or.inl rfl) (Or.inr rfl)))) (fun _ _ _ _ _ => dts_nil) (fun _ _ _ _ _ => (de_and (de_cmp (op_inAny (units65 hr)) od_inAny (de_ix ix_seq od_ix (de_var (pv 3)) de_int (fun _ _ => rfl)) (de_var (pv 1)) (by rfl)) (de_and (de_call D_is_name hr (by first | decide | omega) (by first | exact hG | (intro z; cases z)) rfl passL (da_cons (de_ix ix_seq od_ix (de_var (pv 3)) de_int (fun _ _ => rfl)) da_nil)) (de_one (de_cmp (op_inAny (units65 hr)) od_inAny (de_ix ix_seq od_ix (de_var (pv 3)) de_int (fun _ _ => rfl)) (de_var (pv 2)) (by rfl)))))))) da_nil))))))), fun ds n PP R h => ?_⟩) (fun ds n PP R h => ?_)
  · obtain ⟨d, ps, rs, rfl, hd, k⟩ := h
    refine ⟨rfl, rfl, ?_⟩
    rcases tup_orK hd.kd with ⟨xs, rfl⟩ | ⟨t, e, e2⟩
    · obtain ⟨l, hk⟩ := hd.inn
      replace k : PP (.bl (xs.all (fun x => isTup x 2) && areNames (.tup (xs.map firstOf)) 0 6 && xs.all (wayOk ps rs))) n := k
      refine compI_bools (fun x => isTup x 2) (fun p hp Q q => ⟨p, 2, rfl, (hk p hp).kd, q⟩) ?_
      rw [all_map_id]
      cases c : xs.all (fun x => isTup x 2) with
      | false =>
        rw [c, Bool.false_and, Bool.false_and] at k
        exact k
      | true =>
        rw [c, Bool.true_and] at k
        refine compI_map firstOf (fun p hp Q q => ?_) ?_
        · obtain ⟨a, b, rfl⟩ := pair_of (List.all_eq_true.mp c p hp)
          exact q
        · refine ⟨_, 0, 6, rfl, firsts_kd hk, by decide, ?_⟩
          cases c2 : areNames (.tup (xs.map firstOf)) 0 6 with
          | false =>
            rw [c2, Bool.false_and] at k
            exact k
          | true =>
            rw [c2, Bool.true_and] at k
            refine compI_bools (wayOk ps rs) (fun p hp Q q => ?_) ?_
            · obtain ⟨a, b, rfl⟩ := pair_of (List.all_eq_true.mp c p hp)
              have na : isNameD a = true := List.all_eq_true.mp (areNames_all c2).1 a (List.mem_map.mpr ⟨_, hp, rfl⟩)
              have kb : Kd b := ((hk _ hp).2 _ rfl).2 b (by simp)
              replace q : Q (.bl (memS a ps && isNameD b && memS b rs)) n := q
              refine in_go na ?_
              cases c3 : memS a ps with
              | false =>
                rw [c3, Bool.false_and, Bool.false_and] at q
                exact q
              | true =>
                rw [c3, Bool.true_and] at q
                refine ⟨b, rfl, kb, ?_⟩
                cases c4 : isNameD b with
                | false =>
                  rw [c4, Bool.false_and] at q
                  exact q
                | true =>
                  rw [c4, Bool.true_and] at q
                  exact in_go c4 q
            · rw [all_map_id]
              exact k
    · refine opt_no e ?_
      show if (!isT "tuple" t) = true then _ else _
      rw [e2]
      have no : areWays d ps rs = false := by cases d <;> first | rfl | (cases e; cases e2)
      rw [no] at k
      exact iteT k
  · obtain ⟨d, ps, rs, rfl, _⟩ := h
    rfl
def isRoom (ps : List Str) (l : List (Str × Dat × Str)) (rs : List Str) : Dat → Bool
  | .tup [_, b, c, d] => areRows b ps (some (namesP l)) && areUpdates c ps (some (namesP l)) && areWays d (doersP l) rs
  | _ => false
def spRoom : DSp := fun ds n Q _ => ∃ d ps l rs, ds = [d, namesD ps, partsD l, namesD rs] ∧ isTup d 4 = true ∧ Kn 5 d ∧ Q (.bl (isRoom ps l rs d)) n
theorem Kn.up2 {d : Dat} (h : Kn 4 d) : Kn 2 d := h.down.down
theorem names_go_map (l : List (Str × Dat × Str)) : (l.map fun p => Dat.tup [.str p.1, p.2.1, .str p.2.2]).map firstOf = (namesP l).map Dat.str := by
  unfold namesP
  rw [List.map_map, List.map_map]
  rfl
def doerOf : Dat → Option Dat
  | .tup [a, _, .str z] => if decide (z ≠ ("" : Str)) = true then some a else none
  | _ => none
theorem doers_map (l : List (Str × Dat × Str)) : (l.map fun p => Dat.tup [.str p.1, p.2.1, .str p.2.2]).filterMap doerOf = (doersP l).map Dat.str := by
  induction l with
  | nil => rfl
  | cons p r ih =>
    rw [List.map_cons, List.filterMap_cons]
    unfold doersP
    rw [List.filter_cons]
    have e1 : doerOf (.tup [.str p.1, p.2.1, .str p.2.2]) = (if decide (p.2.2 ≠ ("" : Str)) = true then some (Dat.str p.1) else none) := rfl
    rw [e1]
    by_cases h : decide (p.2.2 ≠ ("" : Str)) = true
    · rw [if_pos h, if_pos h]
      exact congrArg (Dat.str p.1 :: ·) ih
    · rw [if_neg h, if_neg h]
      exact ih
theorem sc_is_room : FnScope ["value", "places", "parts", "rooms", "names", "doers", "row"] ["value", "places", "parts", "rooms"] (defScope (top 59)) := ⟨rfl, rfl, rfl, by decide +kernel, rfl, by decide +kernel, by decide +kernel⟩
theorem ok_is_room {G : Bool} (F : Has K mg "is_room" (top 59)) (T : Blt mg) (Y : CstP K mg) (D_are_rows : Df P w K mg base false 3 "are_rows" (LSp K TT spRows)) (D_are_updates : Df P w K mg base false 6 "are_updates" (LSp K TT spUpds)) (D_are_ways : Df P w K mg base false 3 "are_ways" (LSp K TT spWays)) : Df P w K mg base G 7 "is_room" (LSp K TT spRoom) := by
  refine dat_ok F (fun f fd F => F.binds (fun _ _ _ _ _ _ us hl => by obtain ⟨x0, x1, x2, x3, rfl⟩ := us4 hl; rfl)) sc_is_room (fun f cdv A outer s H E hr hG => ⟨_, (dss_cons (ds_set (i := 4) sc_is_room.nd rfl (Or.inl rfl) (de_cb cd_tup (pe_callTy call_tupleN rfl T.n_tuple boot_tuple (da_cons (de_fr (lf_lcI (own := [("row", 6)]) rfl sc_is_room.nd (di_tup (de_var (pv 2))) (blkOk_by rfl) (fun _ _ _ _ _ => (dg_name (pg_name (i := 6) sc_is_room.nd rfl (Or.inl rfl) (Or.inr rfl)))) (fun _ _ _ _ _ => dts_nil) (fun _ _ _ _ _ => (de_ix ix_seq od_ix (de_var (pv 6)) de_int (fun _ _ => rfl))))) da_nil))))
      (dss_cons (ds_set (i := 5) sc_is_room.nd rfl (Or.inl rfl) (de_cb cd_tup (pe_callTy call_tupleN rfl T.n_tuple boot_tuple (da_cons (de_fr (lf_lcI (own := [("row", 6)]) rfl sc_is_room.nd (di_tup (de_var (pv 2))) (blkOk_by rfl) (fun _ _ _ _ _ => (dg_name (pg_name (i := 6) sc_is_room.nd rfl (Or.inl rfl) (Or.inr rfl)))) (fun _ _ _ _ _ => (dts_one (dt_cmp (op_neDD hr.units) od_ne (de_ix ix_seq od_ix (de_var (pv 6)) de_int (fun _ _ => rfl)) (de_g rfl Y.g_NOTHING) (nomark _)))) (fun _ _ _ _ _ => (de_ix ix_seq od_ix (de_var (pv 6)) de_int (fun _ _ => rfl))))) da_nil))))
      (dss_cons (ds_if (PW.pt (dw_or (dt_not (dt_val (de_call D_are_rows hr (by first | decide | omega) (by first | exact hG | (intro z; cases z)) rfl passL (da_cons (de_ix ix_seq od_ix (de_var (pv 0)) de_int (fun _ _ => rfl)) (da_cons (de_var (pv 1)) (da_cons (de_var (pv 4)) da_nil)))))) (dw_or1 (dt_not (dt_val (de_call D_are_updates hr (by first | decide | omega) (by first | exact hG | (intro z; cases z)) rfl passL (da_cons (de_ix ix_seq od_ix (de_var (pv 0)) de_int (fun _ _ => rfl)) (da_cons (de_var (pv 1)) (da_cons (de_var (pv 4)) da_nil))))))))) (dss_one (ds_ret de_bl)) dss_nil)
      (dss_one (ds_ret (de_call D_are_ways hr (by first | decide | omega) (by first | exact hG | (intro z; cases z)) rfl passL (da_cons (de_ix ix_seq od_ix (de_var (pv 0)) de_int (fun _ _ => rfl)) (da_cons (de_var (pv 5)) (da_cons (de_var (pv 3)) da_nil))))))))), fun ds n PP R h => ?_⟩) (fun ds n PP R h => ?_)
  · obtain ⟨d, ps, l, rs, rfl, h4, hd, k⟩ := h
    obtain ⟨a, b, c, e, rfl⟩ := four_of h4
    obtain ⟨_, kk⟩ := Kn.inn (k := 4) hd
    refine ⟨rfl, ?_⟩
    replace k : PP (.bl (areRows b ps (some (namesP l)) && areUpdates c ps (some (namesP l)) && areWays e (doersP l) rs)) n := k
    refine compI_map firstOf (fun p hp Q q => ?_) ?_
    · obtain ⟨x, _, rfl⟩ := List.mem_map.mp hp
      exact q
    rw [names_go_map]
    refine compI_pure doerOf (fun p hp Q Z q z => ?_) ?_
    · obtain ⟨x, _, rfl⟩ := List.mem_map.mp hp
      refine ⟨⟨cmp_fl rfl, cmp_fl rfl⟩, ?_⟩
      rw [eqD_str]
      have q1 : (if decide (x.2.2 ≠ ("" : Str)) = true then some (Dat.str x.1) else none) = some (.str x.1) → Q (.str x.1) n := q (.str x.1)
      replace z : (if decide (x.2.2 ≠ ("" : Str)) = true then some (Dat.str x.1) else none) = none → Z n := z
      by_cases hz : x.2.2 = ""
      · rw [hz]
        rw [hz] at z
        exact z rfl
      · rw [beq_eq_false_iff_ne.mpr hz]
        rw [if_pos (decide_eq_true hz)] at q1
        exact q1 rfl
    rw [doers_map]
    refine ⟨b, ps, some (namesP l), rfl, (kk b (by simp)).up2, ?_⟩
    cases c1 : areRows b ps (some (namesP l)) with
    | false =>
      rw [c1, Bool.false_and, Bool.false_and] at k
      exact k
    | true =>
      rw [c1, Bool.true_and] at k
      refine ⟨c, ps, some (namesP l), rfl, kk c (by simp), ?_⟩
      cases c2 : areUpdates c ps (some (namesP l)) with
      | false =>
        rw [c2, Bool.false_and] at k
        exact k
      | true =>
        rw [c2, Bool.true_and] at k
        exact ⟨e, doersP l, rs, rfl, (kk e (by simp)).up2, k⟩
  · obtain ⟨d, ps, l, rs, rfl, _⟩ := h
    rfl
def roomUpd : Dat → List Dat
  | .tup [_, _, .tup us, _] => us.map firstOf
  | _ => []
def areRooms (d : Dat) (ps : List Str) (l : List (Str × Dat × Str)) : Bool := match d with
  | .tup xs => xs.all (fun x => isTup x 4) && areNames (.tup (xs.map firstOf)) 1 4 && xs.all (isRoom ps l (textsOf (xs.map firstOf))) && areNames (.tup ((namesP l).map Dat.str ++ xs.flatMap roomUpd)) 1 18
  | _ => false
def spRooms : DSp := fun ds n Q _ => ∃ d ps l, ds = [d, namesD ps, partsD l] ∧ Kn 6 d ∧ l.length ≤ 6 ∧ Q (.bl (areRooms d ps l)) n
theorem isRoom_of {ps : List Str} {l : List (Str × Dat × Str)} {rs : List Str} {d : Dat} (h : isRoom ps l rs d = true) : ∃ a b us e, d = .tup [a, b, .tup us, e] ∧ areRows b ps (some (namesP l)) = true ∧ us.length ≤ 3 ∧ us.all (isUpd ps (some (namesP l))) = true ∧ areWays e (doersP l) rs = true := by
  unfold isRoom at h
  split at h
  · rename_i a b c e
    rw [Bool.and_eq_true, Bool.and_eq_true] at h
    have z := h.1.2
    unfold areUpdates at z
    split at z
    · rename_i us
      rw [Bool.and_eq_true, decide_eq_true_eq] at z
      exact ⟨a, b, us, e, rfl, h.1.1, z.1, z.2, h.2⟩
    · cases z
  · cases h
theorem flat_take {α β : Type} {f : α → List β} : ∀ {xs : List α} {i : Nat} {a : α}, xs[i]? = some a → (xs.take (i + 1)).flatMap f = (xs.take i).flatMap f ++ f a := fun {xs i a} h => by
  rw [List.take_add_one, h, List.flatMap_append]
  simp
theorem sc_are_rooms : FnScope ["value", "places", "parts", "rooms", "updates", "room", "update", "row"] ["value", "places", "parts"] (defScope (top 60)) := ⟨rfl, rfl, rfl, by decide +kernel, rfl, by decide +kernel, by decide +kernel⟩
theorem ok_are_rooms {G : Bool} (F : Has K mg "are_rooms" (top 60)) (T : Blt mg) (Y : CstP K mg) (D_is_tuple : Df P w K mg base false 1 "is_tuple" (LSp K TT spIsTup)) (D_are_names : Df P w K mg base false 2 "are_names" (LSp K TT spAreNames)) (D_is_room : Df P w K mg base false 7 "is_room" (LSp K TT spRoom)) : Df P w K mg base G 8 "are_rooms" (LSp K TT spRooms) := by
  refine dat_ok F (fun f fd F => F.binds (fun _ _ _ _ _ _ us hl => by obtain ⟨x0, x1, x2, rfl⟩ := us3 hl; rfl)) sc_are_rooms (fun f cdv A outer s H E hr hG => ⟨_, (dss_cons (ds_if (PW.pt (dw_or (dt_not (dt_val (de_cb (cd_isT (T := "tuple") (by simp)) (pe_callB call_isi rfl T.n_isinstance boot_isinstance (da_cons (de_var (pv 0)) (da_cons (de_c (pe_bltn (v := .ty "tuple") rfl T.n_tuple boot_tuple rfl) (fun _ _ => .ty _)) da_nil)))))) (dw_or1 (dt_not (dt_val (de_cb cd_all (pe_callB (cr_all rfl) rfl T.n_all boot_all (da_cons (de_fr (lf_lcI (own := [("room", 5)]) rfl sc_are_rooms.nd (di_tup (de_var (pv 0))) (blkOk_by rfl) (fun _ _ _ _ _ => (dg_name (pg_name (i := 5) sc_are_rooms.nd rfl (Or.inl rfl) (Or.inr rfl)))) (fun _ _ _ _ _ => dts_nil) (fun _ _ _ _ _ => (de_call D_is_tuple hr (by first | decide | omega) (by first | exact hG | (intro z; cases z)) rfl passL (da_cons (de_var (pv 5)) (da_cons (de_g rfl Y.g_ROOM) da_nil)))))) da_nil)))))))) (dss_one (ds_ret de_bl)) dss_nil)
      (dss_cons (ds_set (i := 3) sc_are_rooms.nd rfl (Or.inr rfl) (de_cb cd_tup (pe_callTy call_tupleN rfl T.n_tuple boot_tuple (da_cons (de_fr (lf_lcI (own := [("room", 5)]) rfl sc_are_rooms.nd (di_tup (de_var (pv 0))) (blkOk_by rfl) (fun _ _ _ _ _ => (dg_name (pg_name (i := 5) sc_are_rooms.nd rfl (Or.inl rfl) (Or.inr rfl)))) (fun _ _ _ _ _ => dts_nil) (fun _ _ _ _ _ => (de_ix ix_seq od_ix (de_var (pv 5)) de_int (fun _ _ => rfl))))) da_nil))))
      (dss_cons (ds_if (PW.pt (dw_or (dt_not (dt_val (de_call D_are_names hr (by first | decide | omega) (by first | exact hG | (intro z; cases z)) rfl passL (da_cons (de_var (pv 3)) (da_cons de_int (da_cons (de_g rfl Y.g_MOST_ROOMS) da_nil)))))) (dw_or1 (dt_not (dt_val (de_cb cd_all (pe_callB (cr_all rfl) rfl T.n_all boot_all (da_cons (de_fr (lf_lcI (own := [("room", 5)]) rfl sc_are_rooms.nd (di_tup (de_var (pv 0))) (blkOk_by rfl) (fun _ _ _ _ _ => (dg_name (pg_name (i := 5) sc_are_rooms.nd rfl (Or.inl rfl) (Or.inr rfl)))) (fun _ _ _ _ _ => dts_nil) (fun _ _ _ _ _ => (de_call D_is_room hr (by first | decide | omega) (by first | exact hG | (intro z; cases z)) rfl passL (da_cons (de_var (pv 5)) (da_cons (de_var (pv 1)) (da_cons (de_var (pv 2)) (da_cons (de_var (pv 3)) da_nil)))))))) da_nil)))))))) (dss_one (ds_ret de_bl)) dss_nil)
      (dss_cons (ds_setF (st_lc2 (own := [("room", 5), ("update", 6)]) (l1 := [6]) rfl sc_are_rooms.nd (i := 4) rfl rfl rfl (di_tup (de_var (pv 0))) (blkOk_by rfl) (by simp) (fun _ _ _ _ _ => (dg_name (pg_name (i := 5) sc_are_rooms.nd rfl (Or.inl rfl) (Or.inr rfl)))) (fun _ _ _ _ _ => dts_nil) (fun _ _ _ _ _ => (di_tup (de_ix ix_seq od_ix (de_var (pv 5)) de_int (fun _ _ => rfl)))) (fun _ _ _ _ _ => (dg_name (pg_name (i := 6) sc_are_rooms.nd rfl (Or.inl rfl) (Or.inr rfl)))) (fun _ _ _ _ _ => dts_nil) (fun _ _ _ _ _ => (de_ix ix_seq od_ix (de_var (pv 6)) de_int (fun _ _ => rfl)))))
      (dss_one (ds_ret (de_call D_are_names hr (by first | decide | omega) (by first | exact hG | (intro z; cases z)) rfl passL (da_cons (de_cb cd_tup (pe_callTy call_tupleN rfl T.n_tuple boot_tuple (da_cons (de_lst (da_star (de_fr (lf_lcI (own := [("row", 7)]) rfl sc_are_rooms.nd (di_tup (de_var (pv 2))) (blkOk_by rfl) (fun _ _ _ _ _ => (dg_name (pg_name (i := 7) sc_are_rooms.nd rfl (Or.inl rfl) (Or.inr rfl)))) (fun _ _ _ _ _ => dts_nil) (fun _ _ _ _ _ => (de_ix ix_seq od_ix (de_var (pv 7)) de_int (fun _ _ => rfl))))) (da_star (de_var (pv 4)) da_nil))) da_nil))) (da_cons de_int (da_cons (de_g rfl Y.g_MOST_NAMES) da_nil)))))))))), fun ds n PP R h => ?_⟩) (fun ds n PP R h => ?_)
  · obtain ⟨d, ps, l, rfl, hd, h6, k⟩ := h
    refine ⟨rfl, rfl, ?_⟩
    rcases tup_orK hd.kd with ⟨xs, rfl⟩ | ⟨t, e, e2⟩
    · obtain ⟨ln, hk⟩ := hd.inn
      replace k : PP (.bl (xs.all (fun x => isTup x 4) && areNames (.tup (xs.map firstOf)) 1 4 && xs.all (isRoom ps l (textsOf (xs.map firstOf))) && areNames (.tup ((namesP l).map Dat.str ++ xs.flatMap roomUpd)) 1 18)) n := k
      refine compI_bools (fun x => isTup x 4) (fun p hp Q q => ⟨p, 4, rfl, (hk p hp).kd, q⟩) ?_
      rw [all_map_id]
      cases c : xs.all (fun x => isTup x 4) with
      | false =>
        rw [c, Bool.false_and, Bool.false_and, Bool.false_and] at k
        exact k
      | true =>
        rw [c, Bool.true_and] at k
        have h4 := List.all_eq_true.mp c
        refine compI_map firstOf (fun p hp Q q => ?_) ?_
        · obtain ⟨a, b, u, e, rfl⟩ := four_of (h4 p hp)
          exact q
        refine ⟨.tup (xs.map firstOf), 1, 4, rfl, firsts_kd fun x hx => (hk x hx).down.down.down.down, by decide, ?_⟩
        cases c2 : areNames (.tup (xs.map firstOf)) 1 4 with
        | false =>
          rw [c2, Bool.false_and, Bool.false_and] at k
          exact k
        | true =>
          rw [c2, Bool.true_and] at k
          obtain ⟨an, _, _, al4⟩ := areNames_all c2
          rw [List.length_map] at al4
          have en := names_map an
          have er : (Dat.tup (xs.map firstOf)) = namesD (textsOf (xs.map firstOf)) := congrArg Dat.tup en
          refine compI_bools (isRoom ps l (textsOf (xs.map firstOf))) (fun p hp Q q => ⟨p, ps, l, textsOf (xs.map firstOf), by rw [← er], h4 p hp, hk p hp, q⟩) ?_
          rw [all_map_id]
          cases c3 : xs.all (isRoom ps l (textsOf (xs.map firstOf))) with
          | false =>
            rw [c3, Bool.false_and] at k
            exact k
          | true =>
            rw [c3, Bool.true_and] at k
            have hr := List.all_eq_true.mp c3
            have small : ∀ i, i ≤ xs.length → ((xs.take i).flatMap roomUpd).length ≤ 3 * i := fun i => by
              induction i with
              | zero => intro _; simp
              | succ i ih =>
                intro hi
                have e1 : xs[i]? = some xs[i] := List.getElem?_eq_getElem hi
                rw [flat_take e1, List.length_append]
                obtain ⟨a, b, us, e, ex, _, l3, _⟩ := isRoom_of (hr xs[i] (List.getElem_mem hi))
                rw [ex]
                have := ih (by omega)
                show _ + (us.map firstOf).length ≤ _
                rw [List.length_map]
                omega
            refine ⟨fun i acc m => i ≤ xs.length ∧ acc = (xs.take i).flatMap roomUpd ∧ m = n, ⟨Nat.zero_le _, by simp, rfl⟩, ?_, ?_⟩
            · rintro i p acc m hp ⟨hi, rfl, rfl⟩
              have pm : p ∈ xs := List.mem_of_getElem? hp
              have hi2 : i < xs.length := (List.getElem?_eq_some_iff.mp hp).1
              obtain ⟨a, b, us, e, rfl, _, l3, uu, _⟩ := isRoom_of (hr p pm)
              refine ⟨rfl, ?_⟩
              refine ⟨fun j acc m' => acc = (xs.take i).flatMap roomUpd ++ (us.take j).map firstOf ∧ m' = m, ⟨by simp, rfl⟩, ?_, ?_⟩
              · rintro j q acc1 m hq ⟨rfl, rfl⟩
                obtain ⟨x, b', c', e', rfl, _⟩ := isUpd_of (List.all_eq_true.mp uu q (List.mem_of_getElem? hq))
                have s1 := small i (by omega)
                have s2 : ((us.take j).map firstOf).length ≤ 3 := by
                  rw [List.length_map, List.length_take]
                  omega
                refine ⟨by rw [List.length_append]; omega, ?_, rfl⟩
                rw [List.take_add_one, hq, List.map_append, List.append_assoc]
                rfl
              · rintro acc1 m ⟨rfl, rfl⟩
                refine ⟨hi2, ?_, rfl⟩
                rw [List.take_length, flat_take hp]
                rfl
            · rintro acc m ⟨_, rfl, rfl⟩
              rw [List.take_length]
              refine compI_map firstOf (fun p hp Q q => ?_) ?_
              · obtain ⟨x, _, rfl⟩ := List.mem_map.mp hp
                exact q
              rw [names_go_map]
              have ll : ((namesP l).map Dat.str).length = l.length := by
                unfold namesP
                rw [List.length_map, List.length_map]
              have s3 := small xs.length (Nat.le_refl _)
              rw [List.take_length] at s3
              refine ⟨by rw [List.length_append, List.append_nil, ll]; have : sizeLine = 16777216 := by decide +kernel
                         omega, ?_⟩
              refine ⟨_, 1, 18, rfl, ⟨rfl, fun ys e y hy => ?_⟩, by decide, by rw [List.append_nil]; exact k⟩
              cases e
              rw [List.append_nil] at hy
              rcases List.mem_append.mp hy with hy | hy
              · obtain ⟨x, _, rfl⟩ := List.mem_map.mp hy
                rfl
              · obtain ⟨r, hr2, hy⟩ := List.mem_flatMap.mp hy
                obtain ⟨a, b, us, e, rfl, _, _, uu, _⟩ := isRoom_of (hr r hr2)
                obtain ⟨u, hu, rfl⟩ := List.mem_map.mp hy
                obtain ⟨x, b', c', e', rfl, _⟩ := isUpd_of (List.all_eq_true.mp uu u hu)
                rfl
    · refine opt_no e ?_
      show if (!isT "tuple" t) = true then _ else _
      rw [e2]
      have no : areRooms d ps l = false := by cases d <;> first | rfl | (cases e; cases e2)
      rw [no] at k
      exact iteT k
  · obtain ⟨d, ps, l, rfl, _⟩ := h
    rfl
structure ClsProgram (K : PySem.W.Frag) (mg : Str → Option Value) (C : Addr) : Prop where
  cl : Cls K C
  mg : mg "Program" = some (.ref C)
  n_own_places : NoAttr K C "own_places"
  n_own_parts : NoAttr K C "own_parts"
  n_own_rooms : NoAttr K C "own_rooms"
  n_own_deeds : NoAttr K C "own_deeds"
  p_places : Prp K C "places" "own_places" "Program.places" (inClass (top 62) 5)
  p_parts : Prp K C "parts" "own_parts" "Program.parts" (inClass (top 62) 6)
  p_rooms : Prp K C "rooms" "own_rooms" "Program.rooms" (inClass (top 62) 7)
  p_deeds : Prp K C "deeds" "own_deeds" "Program.deeds" (inClass (top 62) 8)
theorem sc_Program_places : FnScope ["self"] ["self"] (defScope (inClass (top 62) 5)) := ⟨rfl, rfl, rfl, by decide +kernel, rfl, by decide +kernel, by decide +kernel⟩
theorem sc_Program_deeds : FnScope ["self"] ["self"] (defScope (inClass (top 62) 8)) := ⟨rfl, rfl, rfl, by decide +kernel, rfl, by decide +kernel, by decide +kernel⟩
structure ErrP (P : Program) (K : PySem.W.Frag) (mg : Str → Option Value) (stI : Stmt) (fI AE C1 C2 C3 : Addr) : Prop where
  ini : AimI P K stI fI AE
  c_BadPlaces : AimC K fI AE C1
  m_BadPlaces : mg "BadPlaces" = some (.ref C1)
  c_BadParts : AimC K fI AE C2
  m_BadParts : mg "BadParts" = some (.ref C2)
  c_BadRooms : AimC K fI AE C3
  m_BadRooms : mg "BadRooms" = some (.ref C3)
def progF : List Str := ["own_places", "own_parts", "own_rooms", "own_deeds"]
def deedOf : Dat → Option Dat
  | .tup [_, _, .str z] => if decide (z ≠ ("" : Str)) = true then some (.str z) else none
  | _ => none
theorem deedOf_map (l : List (Str × Dat × Str)) : (l.map fun p => Dat.tup [.str p.1, p.2.1, .str p.2.2]).filterMap deedOf = ((l.filter fun p => decide (p.2.2 ≠ ("" : Str))).map (·.2.2)).map Dat.str := by
  induction l with
  | nil => rfl
  | cons p r ih =>
    rw [List.map_cons, List.filterMap_cons, List.filter_cons]
    have e1 : deedOf (.tup [.str p.1, p.2.1, .str p.2.2]) = (if decide (p.2.2 ≠ ("" : Str)) = true then some (Dat.str p.2.2) else none) := rfl
    rw [e1]
    by_cases h : decide (p.2.2 ≠ ("" : Str)) = true
    · rw [if_pos h, if_pos h]
      exact congrArg (Dat.str p.2.2 :: ·) ih
    · rw [if_neg h, if_neg h]
      exact ih
end
end Aim
namespace Aim
open PySem PySem.Spec PyProof.Rows L2 RZ
open LamX (TabB)
section
variable {P : Program} {w : World} {K : PySem.W.Frag} {mg : Str → Option Value} {base : Heap} {TT : List (Addr × Str)}
theorem sc_Program___init__ : FnScope ["self", "places", "parts", "rooms", "row"] ["self", "places", "parts", "rooms"] (defScope (inClass (top 62) 0)) := ⟨rfl, rfl, rfl, by decide +kernel, rfl, by decide +kernel, by decide +kernel⟩
end
end Aim
namespace Aim
open PySem PySem.Spec PyProof.Rows L2 RZ
open LamX (TabB)
section
variable {P : Program} {w : World} {K : PySem.W.Frag} {mg : Str → Option Value} {base : Heap} {TT : List (Addr × Str)}
theorem cmp_flat {d : Dat} (h : flatK d = true) : cmpOk d := by
  cases d <;> first | exact ⟨rfl, by show PyData.depth _ ≤ 60; simp [py, PyData.depth]⟩ | cases h
theorem isNm_cons {x : Str} {c : Nat} (h : ∀ a ∈ x.cps.toList, isLet a) (hc : isLet c) : ∀ a ∈ (x ++ ⟨#[c]⟩ : Str).cps.toList, isLet a := fun a ha => by
  have e : (x ++ ⟨#[c]⟩ : Str).cps = x.cps ++ #[c] := rfl
  rw [e] at ha
  simp only [Array.toList_append, List.mem_append, List.mem_singleton] at ha
  rcases ha with ha | ha
  · exact h a ha
  · rw [ha]
    exact hc
def spName : DSp := fun ds n Q _ => ds = [.pot] ∧ n < 900000 ∧ ∀ x m, isNm x → n ≤ m → m ≤ n + 10 → Q (.str x) m
theorem sc__law_name : FnScope ["_law_pot_here", "_law_found", "_law_turn"] ["_law_pot_here"] (defScope (top 70)) := ⟨rfl, rfl, rfl, by decide +kernel, rfl, by decide +kernel, by decide +kernel⟩
theorem ok_name {G : Bool} (F : Has K mg "_law_name" (top 70)) (T : Blt mg) (D__law_take : Df P w K mg base false 1 "_law_take" (LSp K TT spTake)) (D__law_of : Df P w K mg base false 2 "_law_of" (LSp K TT spOf)) (D__law_letter : Df P w K mg base false 1 "_law_letter" (LSp K TT spLetter)) (D__law_word_of_lines : Df P w K mg base false 3 "_law_word_of_lines" (LSp K TT spWord)) : Df P w K mg base G 4 "_law_name" (LSp K TT spName) := by
  refine dat_ok F (fun f fd F => F.binds (fun _ _ _ _ _ _ us hl => by obtain ⟨x0, rfl⟩ := us1 hl; rfl)) sc__law_name (fun f cdv A outer s H E hr hG => ⟨_, (dss_cons (ds_set (i := 1) sc__law_name.nd rfl (Or.inl rfl) de_str)
      (dss_cut (ds_if (dt_cmp (op_eqDD hr.units) od_eq (de_call D__law_take hr (by first | decide | omega) (by first | exact hG | (intro z; cases z)) rfl passL (da_cons (de_var (pv 0)) (da_cons de_int da_nil))) de_int (nomark _)) (dss_one (ds_ret (de_call D__law_word_of_lines hr (by first | decide | omega) (by first | exact hG | (intro z; cases z)) rfl passL (da_cons (de_var (pv 0)) da_nil)))) dss_nil)
      (dss_cons (ds_forI PassesOwn.never rfl (di_rng1 (pi_range1 rfl T.n_range (da_cons (de_call D__law_of hr (by first | decide | omega) (by first | exact hG | (intro z; cases z)) rfl passL (da_cons (de_var (pv 0)) (da_cons (de_lst (da_cons de_int (da_cons de_int (da_cons de_int (da_cons de_int (da_cons de_int (da_cons de_int da_nil))))))) da_nil))) da_nil))) (dg_name (pg_name (i := 2) sc__law_name.nd rfl (Or.inl rfl) (Or.inl rfl))) (dss_one (ds_set (i := 1) sc__law_name.nd rfl (Or.inl rfl) (de_op op_addAny od_add (de_var (pv 1)) (de_call D__law_letter hr (by first | decide | omega) (by first | exact hG | (intro z; cases z)) rfl passL (da_cons (de_call D__law_take hr (by first | decide | omega) (by first | exact hG | (intro z; cases z)) rfl passL (da_cons (de_var (pv 0)) (da_cons de_int da_nil))) da_nil))))))
      (dss_one (ds_ret (de_var (pv 1))))))), fun ds n PP R h => ?_⟩) (fun ds n PP R h => ?_)
  · obtain ⟨rfl, hn, k⟩ := h
    refine ⟨rfl, ?_⟩
    refine ⟨fun ρ' m => ρ' = [.val .pot, .val (.str ""), .no] ∧ m = n + 1, ?_, ?_⟩
    · refine ⟨4, rfl, by omega, by decide, by decide, fun r r0 r1 => ⟨⟨cmp_flat rfl, cmp_flat rfl⟩, ?_⟩⟩
      refine ite2 (fun c => ?_) (fun c => ⟨rfl, rfl⟩)
      exact ⟨rfl, by omega, fun x hx => k x _ hx (by omega) (by omega)⟩
    · rintro ρ' m ⟨rfl, rfl⟩
      refine ⟨by show 6 ≤ sizeLine; decide, [.int 1, .int 1, .int 1, .int 2, .int 4, .int 8], .inl rfl, by omega, by decide, by decide, fun v hv => ?_⟩
      have hv2 : ∃ j : Int, v = .int j ∧ 1 ≤ j ∧ j ≤ 8 := by
        simp only [List.mem_cons, List.not_mem_nil, or_false] at hv
        rcases hv with rfl | rfl | rfl | rfl | rfl | rfl <;> exact ⟨_, rfl, by decide, by decide⟩
      obtain ⟨j, rfl, j0, j1⟩ := hv2
      refine ⟨by omega, fun i ρ' m => ∃ (x : Str) (s : Sl), ρ' = [.val .pot, .val (.str x), s] ∧ x.cps.size = i ∧ i ≤ 8 ∧ (∀ c ∈ x.cps.toList, isLet c) ∧ m = n + 2 + i, ⟨"", .no, rfl, rfl, by omega, fun c hc => by simp [show ("" : Str).cps = #[] from rfl] at hc, rfl⟩, ?_, ?_⟩
      · rintro i d ρ' m hd ⟨x, s, rfl, hx, hi, hl, rfl⟩
        obtain ⟨e1, e2⟩ := List.getElem?_eq_some_iff.mp hd
        rw [numL_len] at e1
        refine ⟨26, rfl, by omega, by decide, by decide, fun r r0 r1 => ⟨r, rfl, r0, r1, fun c hc => ?_⟩⟩
        have hz : x.length + (⟨#[c]⟩ : Str).length ≤ sizeLine := by
          show x.cps.size + 1 ≤ sizeLine
          have : sizeLine = 16777216 := by decide +kernel
          omega
        refine ⟨hz, x ++ ⟨#[c]⟩, _, rfl, ?_, by omega, isNm_cons hl hc, by omega⟩
        show (x.cps ++ #[c]).size = i + 1
        rw [Array.size_append, hx]
        rfl
      · rintro ρ' m ⟨x, s, rfl, hx, hi, hl, rfl⟩
        rw [numL_len] at hx hi
        exact k x _ ⟨by omega, by omega, hl⟩ (by omega) (by rw [numL_len]; omega)
  · obtain ⟨rfl, _⟩ := h
    rfl
def kindOf (x : Str) (d : Dat) : Bool := if x = "bool" then tyK d == some "bool" else if x = "int" then tyK d == some "int" else tyK d == some "str"
def spIs : DSp := fun ds n Q _ => ∃ (x : Str) (d : Dat), ds = [.str x, d] ∧ (tyK d).isSome = true ∧ Q (.bl (kindOf x d)) n
theorem isT_bool {d : Dat} {t : String} (h : tyK d = some t) : isT "bool" t = (tyK d == some "bool") := by
  rw [h]
  rcases tyK_mem h with h | h | h | h | h | h | h | h <;> subst h <;> rfl
theorem isT_str {d : Dat} {t : String} (h : tyK d = some t) : isT "str" t = (tyK d == some "str") := by
  rw [h]
  rcases tyK_mem h with h | h | h | h | h | h | h | h <;> subst h <;> rfl
theorem isT_int {d : Dat} {t : String} (h : tyK d = some t) : (isT "int" t && !isT "bool" t) = (tyK d == some "int") := by
  rw [h]
  rcases tyK_mem h with h | h | h | h | h | h | h | h <;> subst h <;> rfl
theorem sc__law_is : FnScope ["_law_kind", "_law_value"] ["_law_kind", "_law_value"] (defScope (top 79)) := ⟨rfl, rfl, rfl, by decide +kernel, rfl, by decide +kernel, by decide +kernel⟩
theorem ok_is {G : Bool} (F : Has K mg "_law_is" (top 79)) (T : Blt mg) : Df P w K mg base G 1 "_law_is" (LSp K TT spIs) := by
  refine dat_ok F (fun f fd F => F.binds (fun _ _ _ _ _ _ us hl => by obtain ⟨x0, x1, rfl⟩ := us2 hl; rfl)) sc__law_is (fun f cdv A outer s H E hr hG => ⟨_, (dss_cons (ds_if (dt_cmp (op_eqDD hr.units) od_eq (de_var (pv 0)) de_str (nomark _)) (dss_one (ds_ret (de_cb (cd_isT (T := "bool") (by simp)) (pe_callB call_isi rfl T.n_isinstance boot_isinstance (da_cons (de_var (pv 1)) (da_cons (de_c (pe_bltn (v := .ty "bool") rfl T.n_bool boot_bool rfl) (fun _ _ => .ty _)) da_nil)))))) dss_nil)
      (dss_cons (ds_if (dt_cmp (op_eqDD hr.units) od_eq (de_var (pv 0)) de_str (nomark _)) (dss_one (ds_ret (de_and (de_cb (cd_isT (T := "int") (by simp)) (pe_callB call_isi rfl T.n_isinstance boot_isinstance (da_cons (de_var (pv 1)) (da_cons (de_c (pe_bltn (v := .ty "int") rfl T.n_int boot_int rfl) (fun _ _ => .ty _)) da_nil)))) (de_one (de_not (de_cb (cd_isT (T := "bool") (by simp)) (pe_callB call_isi rfl T.n_isinstance boot_isinstance (da_cons (de_var (pv 1)) (da_cons (de_c (pe_bltn (v := .ty "bool") rfl T.n_bool boot_bool rfl) (fun _ _ => .ty _)) da_nil))))))))) dss_nil)
      (dss_one (ds_ret (de_cb (cd_isT (T := "str") (by simp)) (pe_callB call_isi rfl T.n_isinstance boot_isinstance (da_cons (de_var (pv 1)) (da_cons (de_c (pe_bltn (v := .ty "str") rfl T.n_str boot_str rfl) (fun _ _ => .ty _)) da_nil)))))))), fun ds n PP R h => ?_⟩) (fun ds n PP R h => ?_)
  · obtain ⟨x, d, rfl, ht, k⟩ := h
    obtain ⟨t, e⟩ := Option.isSome_iff_exists.mp ht
    have hq : ∀ Q : String → Prop, Q t → optD (tyK d) Q := fun Q q => by rw [e]; exact q
    refine ⟨rfl, ?_⟩
    unfold kindOf at k
    refine ⟨⟨cmp_flat rfl, cmp_flat rfl⟩, ?_⟩
    refine ite2 (fun c => ?_) (fun c => ?_)
    · have c : x = "bool" := by simpa [eqD, py, PyData.eqv] using c
      rw [if_pos c, ← isT_bool e] at k
      exact ⟨rfl, hq _ k⟩
    · have c : x ≠ "bool" := by simpa [eqD, py, PyData.eqv] using c
      rw [if_neg c] at k
      refine ⟨⟨cmp_flat rfl, cmp_flat rfl⟩, ?_⟩
      refine ite2 (fun c => ?_) (fun c => ?_)
      · have c : x = "int" := by simpa [eqD, py, PyData.eqv] using c
        rw [if_pos c, ← isT_int e] at k
        refine ⟨rfl, hq _ ?_⟩
        refine ite2 (fun c => ?_) (fun c => ?_)
        · rw [c, Bool.true_and] at k
          exact ⟨rfl, hq _ k⟩
        · rw [Bool.eq_false_iff.mpr c, Bool.false_and] at k
          exact k
      · have c : x ≠ "int" := by simpa [eqD, py, PyData.eqv] using c
        rw [if_neg c, ← isT_str e] at k
        exact ⟨rfl, hq _ k⟩
  · obtain ⟨x, d, rfl, _⟩ := h
    rfl
mutual
def sameD : Dat → Dat → Bool
  | .non, .non => true
  | .bl a, .bl b => a == b
  | .int a, .int b => a == b
  | .str a, .str b => a == b
  | .tup xs, .tup ys => sameDs xs ys
  | .lst xs, .lst ys => sameDs xs ys
  | _, _ => false
def sameDs : List Dat → List Dat → Bool
  | [], [] => true
  | x :: xs, y :: ys => sameD x y && sameDs xs ys
  | _, _ => false
end
def Lvl : Nat → Dat → Prop
  | 0, d => flatK d = true
  | n + 1, d => flatK d = true ∨ ∃ xs, (d = .tup xs ∨ d = .lst xs) ∧ ∀ x ∈ xs, Lvl n x
theorem sameDs_len : ∀ {xs ys : List Dat}, xs.length ≠ ys.length → sameDs xs ys = false
  | [], [], h => absurd rfl h
  | [], _ :: _, _ => rfl
  | _ :: _, [], _ => rfl
  | x :: xs, y :: ys, h => by
    show (sameD x y && sameDs xs ys) = false
    rw [sameDs_len (fun z => h (congrArg (· + 1) z)), Bool.and_false]
theorem sameDs_all : ∀ {xs ys : List Dat}, xs.length = ys.length → ((List.zipWith sameD xs ys).all id) = sameDs xs ys
  | [], [], _ => rfl
  | x :: xs, y :: ys, h => by
    show (sameD x y && ((List.zipWith sameD xs ys).all id)) = _
    rw [sameDs_all (Nat.succ.inj h)]
    rfl
theorem plains_mem : ∀ {xs : List Dat}, plains xs = true → ∀ x ∈ xs, plain x = true
  | x :: xs, h, y, hy => by
    have h2 := Bool.and_eq_true_iff.mp (show (plain x && plains xs) = true from h)
    rcases List.mem_cons.mp hy with z | z
    · rw [z]
      exact h2.1
    · exact plains_mem h2.2 y z
def spSame (n : Nat) : DSp := fun ds m Q _ => ∃ d e : Dat, ds = [d, e] ∧ Lvl n d ∧ plain d = true ∧ plain e = true ∧ Q (.bl (sameD d e)) m
theorem flat_same {d e : Dat} (hd : flatK d = true) (he : flatK e = true) (h : kindOf "bool" d = kindOf "bool" e ∧ kindOf "int" d = kindOf "int" e ∧ kindOf "str" d = kindOf "str" e) : eqD d e = sameD d e := by
  cases d <;> first | cases hd | skip
  all_goals cases e <;> first | cases he | skip
  all_goals first | rfl | exact Bool.noConfusion (show true = false from h.1) | exact Bool.noConfusion (show false = true from h.1)
theorem flat_diff {d e : Dat} (hd : flatK d = true) (he : flatK e = true) (x : Str) (hx : x = "bool" ∨ x = "int" ∨ x = "str") (h : kindOf x d ≠ kindOf x e) : sameD d e = false := by
  cases d <;> first | cases hd | skip
  all_goals cases e <;> first | cases he | skip
  all_goals first | rfl | (exfalso; rcases hx with hx | hx | hx <;> subst hx <;> exact h rfl)
theorem flat_tyTL {d : Dat} (h : flatK d = true) : ∃ t, tyK d = some t ∧ (t == "tuple" || t == "list") = false ∧ isT "tuple" t = false ∧ isT "list" t = false := by
  cases d <;> first | exact ⟨_, rfl, rfl, rfl, rfl⟩ | cases h
theorem seq_of {d : Dat} (h : plain d = true) (f : ¬ flatK d = true) : ∃ xs, plains xs = true ∧ (d = .tup xs ∨ d = .lst xs) := by
  cases d <;> first | exact absurd rfl f | exact ⟨_, h, .inl rfl⟩ | exact ⟨_, h, .inr rfl⟩ | cases h
theorem pairs_mem {xs ys : List Dat} {d : Dat} (h : d ∈ pairs xs ys) : ∃ x ∈ xs, ∃ y ∈ ys, d = .tup [x, y] := by
  obtain ⟨i, hi⟩ := List.mem_iff_getElem?.mp h
  obtain ⟨x, y, h1, h2, e⟩ := pairs_get hi
  exact ⟨x, List.mem_of_getElem? h1, y, List.mem_of_getElem? h2, e⟩
def same2 : Dat → Dat
  | .tup [x, y] => .bl (sameD x y)
  | d => d
theorem same2_pairs : ∀ xs ys : List Dat, (pairs xs ys).map same2 = (List.zipWith sameD xs ys).map Dat.bl
  | [], _ => by simp [pairs]
  | _ :: _, [] => by simp [pairs]
  | x :: xs, y :: ys => by
    have := same2_pairs xs ys
    simp only [pairs, List.zipWith_cons_cons, List.map_cons] at this ⊢
    rw [this]
    rfl
theorem sc__law_same : FnScope ["_law_one", "_law_other", "_law_kind", "_law_both", "_law_lists", "_law_here", "_law_there"] ["_law_one", "_law_other"] (defScope (top 78)) := ⟨rfl, rfl, rfl, by decide +kernel, rfl, by decide +kernel, by decide +kernel⟩
theorem same_step {G : Bool} {lv : Nat} {sp0 : DSp} (F : Has K mg "_law_same" (top 78)) (T : Blt mg) (D__law_is : Df P w K mg base false 1 "_law_is" (LSp K TT spIs)) (D__law_same : Df P w K mg base G (lv + 1) "_law_same" (LSp K TT sp0))
    (hc : ∀ d, Lvl lv d → ∀ xs, (d = .tup xs ∨ d = .lst xs) → ∀ x ∈ xs, ∀ (y : Dat) (m : Nat) (Q : Dat → Nat → Prop) (R : RX), plain x = true → plain y = true → Q (.bl (sameD x y)) m → sp0 [x, y] m Q R) : Df P w K mg base G (lv + 2) "_law_same" (LSp K TT (spSame lv)) := by
  refine dat_ok F (fun f fd F => F.binds (fun _ _ _ _ _ _ us hl => by obtain ⟨x0, x1, rfl⟩ := us2 hl; rfl)) sc__law_same (fun f cdv A outer s H E hr hG => ⟨_, (dss_cons (ds_if (PW.pt (dw_or (dt_val (de_isTL (pe_callB call_isiT rfl T.n_isinstance boot_isinstance (pa_cons (de_var (pv 0)) (pa_cons (pe_tup (pa_cons (pe_bltn (v := .ty "tuple") rfl T.n_tuple boot_tuple rfl) (pa_cons (pe_bltn (v := .ty "list") rfl T.n_list boot_list rfl) pa_nil))) pa_nil))))) (dw_or1 (dt_val (de_isTL (pe_callB call_isiT rfl T.n_isinstance boot_isinstance (pa_cons (de_var (pv 1)) (pa_cons (pe_tup (pa_cons (pe_bltn (v := .ty "tuple") rfl T.n_tuple boot_tuple rfl) (pa_cons (pe_bltn (v := .ty "list") rfl T.n_list boot_list rfl) pa_nil))) pa_nil)))))))) (dss_cons (ds_set (i := 3) sc__law_same.nd rfl (Or.inl rfl) (de_and (de_cb (cd_isT (T := "tuple") (by simp)) (pe_callB call_isi rfl T.n_isinstance boot_isinstance (da_cons (de_var (pv 0)) (da_cons (de_c (pe_bltn (v := .ty "tuple") rfl T.n_tuple boot_tuple rfl) (fun _ _ => .ty _)) da_nil)))) (de_one (de_cb (cd_isT (T := "tuple") (by simp)) (pe_callB call_isi rfl T.n_isinstance boot_isinstance (da_cons (de_var (pv 1)) (da_cons (de_c (pe_bltn (v := .ty "tuple") rfl T.n_tuple boot_tuple rfl) (fun _ _ => .ty _)) da_nil)))))))
      (dss_cons (ds_set (i := 4) sc__law_same.nd rfl (Or.inl rfl) (de_and (de_cb (cd_isT (T := "list") (by simp)) (pe_callB call_isi rfl T.n_isinstance boot_isinstance (da_cons (de_var (pv 0)) (da_cons (de_c (pe_bltn (v := .ty "list") rfl T.n_list boot_list rfl) (fun _ _ => .ty _)) da_nil)))) (de_one (de_cb (cd_isT (T := "list") (by simp)) (pe_callB call_isi rfl T.n_isinstance boot_isinstance (da_cons (de_var (pv 1)) (da_cons (de_c (pe_bltn (v := .ty "list") rfl T.n_list boot_list rfl) (fun _ _ => .ty _)) da_nil)))))))
      (dss_cons (ds_if (PW.pt (dw_or (PW.pt (dw_and (dt_not (dt_val (de_var (pv 3)))) (dw_and1 (dt_not (dt_val (de_var (pv 4))))))) (dw_or1 (dt_cmp (op_neDD hr.units) od_ne (de_cb cd_len (pe_callB call_len rfl T.n_len boot_len (da_cons (de_var (pv 0)) da_nil))) (de_cb cd_len (pe_callB call_len rfl T.n_len boot_len (da_cons (de_var (pv 1)) da_nil))) (nomark _))))) (dss_one (ds_ret de_bl)) dss_nil)
      (dss_one (ds_ret (de_cb cd_all (pe_callB (cr_all rfl) rfl T.n_all boot_all (da_cons (de_fr (lf_lcI (own := [("_law_here", 5), ("_law_there", 6)]) rfl sc__law_same.nd (di_zip (pi_zipN rfl T.n_zip (da_cons (de_var (pv 0)) (da_cons (de_var (pv 1)) da_nil)))) (blkOk_by rfl) (fun _ _ _ _ _ => (dg_tup (n := 2) rfl (dgs_cons (dg_name (pg_name (i := 5) sc__law_same.nd rfl (Or.inl rfl) (Or.inr rfl))) (dgs_cons (dg_name (pg_name (i := 6) sc__law_same.nd rfl (Or.inl rfl) (Or.inr rfl))) dgs_nil)) (fun ds ρ P h => dgl_len (l := [5, 6]) h))) (fun _ _ _ _ _ => dts_nil) (fun _ _ _ _ _ => (de_call D__law_same hr (by first | decide | omega) (by first | exact hG | (intro z; cases z)) rfl passL (da_cons (de_var (pv 5)) (da_cons (de_var (pv 6)) da_nil)))))) da_nil)))))))) dss_nil)
      (dss_cons (ds_forI PassesOwn.never rfl (di_tup (de_tup (da_cons de_str (da_cons de_str (da_cons de_str da_nil))))) (dg_name (pg_name (i := 2) sc__law_same.nd rfl (Or.inl rfl) (Or.inl rfl))) (dss_one (ds_if (dt_cmp (op_neDD hr.units) od_ne (de_call D__law_is hr (by first | decide | omega) (by first | exact hG | (intro z; cases z)) rfl passL (da_cons (de_var (pv 2)) (da_cons (de_var (pv 0)) da_nil))) (de_call D__law_is hr (by first | decide | omega) (by first | exact hG | (intro z; cases z)) rfl passL (da_cons (de_var (pv 2)) (da_cons (de_var (pv 1)) da_nil))) (nomark _)) (dss_one (ds_ret de_bl)) dss_nil)))
      (dss_one (ds_ret (de_cmp (op_eqDD hr.units) od_eq (de_var (pv 0)) (de_var (pv 1)) (nomark _)))))), fun ds n PP R h => ?_⟩) (fun ds n PP R h => ?_)
  · obtain ⟨d, e, rfl, hl, pd, pe, k⟩ := h
    refine ⟨rfl, ?_⟩
    have oq : ∀ {x : Dat} {t : String} {Q : String → Prop}, tyK x = some t → Q t → optD (tyK x) Q := fun {x t Q} e q => by rw [e]; exact q
    by_cases fd : flatK d = true
    · obtain ⟨t, e1, e2, e5, e6⟩ := flat_tyTL fd
      refine oq e1 ?_
      show if (t == "tuple" || t == "list") = true then _ else _
      rw [e2]
      refine iteF ?_
      by_cases fe : flatK e = true
      · obtain ⟨t3, e3, e4, _, _⟩ := flat_tyTL fe
        refine oq e3 ?_
        show if (t3 == "tuple" || t3 == "list") = true then _ else _
        rw [e4]
        refine iteF ?_
        refine ⟨by show 3 ≤ sizeLine; decide, fun i ρ' m' => ∃ s : Sl, ρ' = [.val d, .val e, s, .no, .no, .no, .no] ∧ m' = n ∧ ∀ x ∈ (["bool", "int", "str"] : List Str).take i, kindOf x d = kindOf x e, ⟨.no, rfl, rfl, fun x hx => by simp at hx⟩, ?_, ?_⟩
        · rintro i a ρ' m' ha ⟨s, rfl, rfl, hk⟩
          have ha2 : ∃ x : Str, a = .str x ∧ (["bool", "int", "str"] : List Str)[i]? = some x := by
            match i, ha with
            | 0, ha => cases ha; exact ⟨_, rfl, rfl⟩
            | 1, ha => cases ha; exact ⟨_, rfl, rfl⟩
            | 2, ha => cases ha; exact ⟨_, rfl, rfl⟩
            | i + 3, ha => cases ha
          obtain ⟨x, rfl, hx⟩ := ha2
          refine ⟨x, d, rfl, by rw [e1]; rfl, x, e, rfl, by rw [e3]; rfl, ⟨cmp_flat rfl, cmp_flat rfl⟩, ?_⟩
          have hx2 : x = "bool" ∨ x = "int" ∨ x = "str" := by
            have := List.mem_of_getElem? hx
            simpa using this
          by_cases hxe : kindOf x d = kindOf x e
          · show if (!(kindOf x d == kindOf x e)) = true then _ else _
            rw [hxe, beq_self_eq_true]
            refine iteF ⟨_, rfl, rfl, fun y hy => ?_⟩
            rw [List.take_add_one, hx] at hy
            rcases List.mem_append.mp hy with z | z
            · exact hk y z
            · simp at z
              rw [z]
              exact hxe
          · show if (!(kindOf x d == kindOf x e)) = true then _ else _
            rw [beq_eq_false_iff_ne.mpr hxe]
            rw [flat_diff fd fe x hx2 hxe] at k
            exact k
        · rintro ρ' m' ⟨s, rfl, rfl, hk⟩
          refine ⟨⟨cmp_flat fd, cmp_flat fe⟩, ?_⟩
          rw [flat_same fd fe ⟨hk _ (by simp), hk _ (by simp), hk _ (by simp)⟩]
          exact k
      · obtain ⟨ys, py, he⟩ := seq_of pe fe
        have no : sameD d e = false := by
          rcases he with rfl | rfl <;> cases d <;> first | rfl | cases fd
        have e4 : ∃ t3, tyK e = some t3 ∧ (t3 == "tuple" || t3 == "list") = true := by rcases he with rfl | rfl <;> exact ⟨_, rfl, rfl⟩
        obtain ⟨t3, e3, e4⟩ := e4
        rw [no] at k
        refine oq e3 ?_
        show if (t3 == "tuple" || t3 == "list") = true then _ else _
        rw [e4]
        refine iteT ?_
        refine ⟨rfl, oq e1 ?_⟩
        show if isT "tuple" t = true then _ else _
        rw [e5]
        refine iteF ⟨rfl, oq e1 ?_⟩
        show if isT "list" t = true then _ else _
        rw [e6]
        exact k
    · obtain ⟨xs, px, hd⟩ := seq_of pd fd
      have hmem : ∀ x ∈ xs, plain x = true := plains_mem px
      have go : ∀ ys : List Dat, plains ys = true → xs.length = ys.length → PP (.bl (sameDs xs ys)) n → ∀ (ρ : List Sl), ρ.length = 7 → compI [5, 6] (dgTup (dgCons (dgName 5) (dgCons (dgName 6) dgNil))) (fun _ n P _ => P true n) (dCall sp0 (dCons (dVar 5) (dCons (dVar 6) dNil))) ρ (fun zs m => bools zs fun bs => PP (.bl (bs.all id)) m) (pairs xs ys) n := fun ys py hlen kk ρ hρ => by
        refine compI_map same2 (fun p hp Q q => ?_) ?_
        · obtain ⟨x, hx, y, hy, rfl⟩ := pairs_mem hp
          match ρ, hρ with
          | [_, _, _, _, _, _, _], _ => exact hc d hl xs hd x hx y _ _ _ (hmem x hx) (plains_mem py y hy) q
        · rw [same2_pairs]
          refine bools_map _ ?_
          rw [sameDs_all hlen]
          exact kk
      have lenNe : ∀ a b : Nat, a ≠ b → (!eqD (.int (a : Nat)) (.int (b : Nat))) = true := fun a b h => by
        show (!((a : Int) == (b : Int))) = true
        rw [beq_eq_false_iff_ne.mpr (by omega)]
        rfl
      have lenEq : ∀ a b : Nat, a = b → (!eqD (.int (a : Nat)) (.int (b : Nat))) = false := fun a b h => by
        subst h
        show (!((a : Int) == (a : Int))) = false
        rw [beq_self_eq_true]
        rfl
      by_cases fe : flatK e = true
      · obtain ⟨t3, e3, e4, e5, e6⟩ := flat_tyTL fe
        have no : sameD d e = false := by rcases hd with rfl | rfl <;> cases e <;> first | rfl | cases fe
        rw [no] at k
        rcases hd with rfl | rfl
        · refine ⟨rfl, rfl, oq e3 ?_⟩
          rw [e5]
          exact ⟨rfl, k⟩
        · refine ⟨rfl, rfl, rfl, oq e3 ?_⟩
          rw [e6]
          exact k
      · obtain ⟨ys, py, he⟩ := seq_of pe fe
        rcases hd with rfl | rfl
        · rcases he with rfl | rfl
          · refine ⟨rfl, rfl, rfl, ⟨cmp_flat rfl, cmp_flat rfl⟩, ?_⟩
            by_cases hlen : xs.length = ys.length
            · show if (!eqD (.int (xs.length : Nat)) (.int (ys.length : Nat))) = true then _ else _
              rw [lenEq _ _ hlen]
              exact iteF ⟨hlen, go ys py hlen k _ rfl⟩
            · show if (!eqD (.int (xs.length : Nat)) (.int (ys.length : Nat))) = true then _ else _
              rw [lenNe _ _ hlen]
              rw [show sameD (.tup xs) (.tup ys) = false from sameDs_len hlen] at k
              exact iteT k
          · exact ⟨rfl, rfl, rfl, k⟩
        · rcases he with rfl | rfl
          · exact ⟨rfl, rfl, rfl, k⟩
          · refine ⟨rfl, rfl, rfl, ⟨cmp_flat rfl, cmp_flat rfl⟩, ?_⟩
            by_cases hlen : xs.length = ys.length
            · show if (!eqD (.int (xs.length : Nat)) (.int (ys.length : Nat))) = true then _ else _
              rw [lenEq _ _ hlen]
              exact iteF (go ys py hlen k _ rfl)
            · show if (!eqD (.int (xs.length : Nat)) (.int (ys.length : Nat))) = true then _ else _
              rw [lenNe _ _ hlen]
              rw [show sameD (.lst xs) (.lst ys) = false from sameDs_len hlen] at k
              exact iteT k
  · obtain ⟨d, e, rfl, _⟩ := h
    rfl
end
end Aim
namespace Aim
open PySem PySem.Spec PyProof.Rows L2 RZ
open LamX (TabB)
section
variable {P : Program} {w : World} {K : PySem.W.Frag} {mg : Str → Option Value} {base : Heap} {TT : List (Addr × Str)}
theorem Df.none {G : Bool} {k : Nat} {x : Str} {st : Stmt} {ps : List Str} (F : Has K mg x st) (hb : ∀ f fd, L2.Fun K x x st f fd → L2.Binds K fd ps []) : Df P w K mg base G k x (LSp (S := Nat) K TT fun _ _ _ _ => False) := by
  obtain ⟨f, fd, F, hm⟩ := F.ex
  exact ⟨f, fd, ps, ⟨fun _ _ _ _ ⟨_, _, _, _, _, h, _⟩ => h.elim, fun _ _ _ _ _ ⟨_, _, _, _, _, h, _⟩ => h.elim⟩, hm, F.kp, hb f fd F⟩
theorem lvl_inner {n : Nat} {d : Dat} (h : Lvl (n + 1) d) {xs : List Dat} (e : d = .tup xs ∨ d = .lst xs) : ∀ x ∈ xs, Lvl n x := by
  rcases h with h | ⟨ys, h, q⟩
  · rcases e with rfl | rfl <;> cases h
  · rcases e with rfl | rfl <;> rcases h with h | h <;> cases h <;> exact q
theorem ok_same {G : Bool} (F : Has K mg "_law_same" (top 78)) (T : Blt mg) (D__law_is : Df P w K mg base false 1 "_law_is" (LSp K TT spIs)) : ∀ lv : Nat, Df P w K mg base G (lv + 2) "_law_same" (LSp K TT (spSame lv))
  | 0 => same_step (sp0 := fun _ _ _ _ => False) F T D__law_is (.none (ps := ["_law_one", "_law_other"]) F fun f fd F => F.binds (fun _ _ _ _ _ _ us hl => by obtain ⟨x0, x1, rfl⟩ := us2 hl; rfl)) fun d hd xs e => by
    rcases e with rfl | rfl <;> cases hd
  | lv + 1 => same_step (lv := lv + 1) F T D__law_is (ok_same F T D__law_is lv) fun d hd xs e x hx y m Q R px py q => ⟨x, y, rfl, lvl_inner hd e x hx, px, py, q⟩
def oddL : List Dat := [.non, .int (-1), .int 10, .int (10 ^ 40), .str "", .str "A", .str "a b", .str "abcdefghi", .str "a1", .tup [.non], .tup [.tup []], .lst [], .lst [.str "a"], .dct [] [], .dct [.inr "a"] [.int 1]]
def spOdd : DSp := fun ds n Q _ => ds = [.pot] ∧ n < 1000000 ∧ ∀ v ∈ oddL, Q v (n + 1)
theorem sc__law_odd : FnScope ["_law_pot_here", "_law_some"] ["_law_pot_here"] (defScope (top 80)) := ⟨rfl, rfl, rfl, by decide +kernel, rfl, by decide +kernel, by decide +kernel⟩
theorem ok_odd {G : Bool} (F : Has K mg "_law_odd" (top 80)) (T : Blt mg) (D__law_of : Df P w K mg base false 2 "_law_of" (LSp K TT spOf)) : Df P w K mg base G 3 "_law_odd" (LSp K TT spOdd) := by
  refine dat_ok F (fun f fd F => F.binds (fun _ _ _ _ _ _ us hl => by obtain ⟨x0, rfl⟩ := us1 hl; rfl)) sc__law_odd (fun f cdv A outer s H E hr hG => ⟨_, (dss_cons (ds_set (i := 1) sc__law_odd.nd rfl (Or.inl rfl) (de_lst (da_cons de_non (da_cons (de_neg de_int) (da_cons de_int (da_cons (de_op op_powW (od_IC _) de_int de_int) (da_cons de_str (da_cons de_str (da_cons de_str (da_cons de_str (da_cons de_str (da_cons (de_tup (da_cons de_non da_nil)) (da_cons (de_tup (da_cons (de_tup da_nil) da_nil)) (da_cons (de_lst da_nil) (da_cons (de_lst (da_cons de_str da_nil)) (da_cons (de_dict0) (da_cons (de_dict1 (d := .int 1) pe_int rfl (fun _ _ => .int 1)) da_nil)))))))))))))))))
      (dss_one (ds_ret (de_call D__law_of hr (by first | decide | omega) (by first | exact hG | (intro z; cases z)) rfl passL (da_cons (de_var (pv 0)) (da_cons (de_var (pv 1)) da_nil)))))), fun ds n PP R h => ?_⟩) (fun ds n PP R h => ?_)
  · obtain ⟨rfl, hn, k⟩ := h
    exact ⟨rfl, ⟨by decide, by decide⟩, by show 1 ≤ sizeLine; decide, by show 0 ≤ sizeLine; decide, by show 1 ≤ sizeLine; decide, by show 0 ≤ sizeLine; decide, by show 1 ≤ sizeLine; decide, by show 15 ≤ sizeLine; decide, oddL, .inl rfl, hn, by decide, by decide, k⟩
  · obtain ⟨rfl, _⟩ := h
    rfl
def flatS : Dat → Prop
  | .non => True | .bl _ => True
  | .int i => -1 ≤ i ∧ i ≤ 1000
  | .str x => x.cps.size ≤ 60
  | _ => False
def InV : Nat → Dat → Prop
  | 0, d => flatS d
  | k + 1, d => flatS d ∨ ∃ xs, d = .tup xs ∧ xs.length ≤ 500 ∧ ∀ x ∈ xs, InV k x
def flatO : Dat → Prop
  | .non => True | .bl _ => True | .int _ => True
  | .str x => x.cps.size ≤ 100
  | .dct _ _ => True
  | _ => False
def OutV : Nat → Dat → Prop
  | 0, d => flatO d
  | k + 1, d => flatO d ∨ ∃ xs, (d = .tup xs ∨ d = .lst xs) ∧ xs.length ≤ 1001 ∧ ∀ x ∈ xs, OutV k x
theorem flatS_O {d : Dat} (h : flatS d) : flatO d := by
  cases d <;> first | trivial | (show _ ≤ 100; have : _ ≤ 60 := h; omega) | cases h
theorem OutV.up : ∀ {k : Nat} {d : Dat}, OutV k d → OutV (k + 1) d
  | 0, d, h => .inl h
  | k + 1, d, h => by
    rcases h with h | ⟨xs, e, l, q⟩
    · exact .inl h
    · exact .inr ⟨xs, e, l, fun x hx => (q x hx).up⟩
theorem OutV.le {k j : Nat} {d : Dat} (h : OutV k d) (hj : k ≤ j) : OutV j d := by
  induction hj with
  | refl => exact h
  | step _ ih => exact ih.up
theorem OutV.flat {d : Dat} (h : flatO d) : ∀ k, OutV k d
  | 0 => h
  | _ + 1 => .inl h
theorem InV.out : ∀ {k : Nat} {d : Dat}, InV k d → OutV k d
  | 0, d, h => flatS_O h
  | k + 1, d, h => by
    rcases h with h | ⟨xs, e, l, q⟩
    · exact .inl (flatS_O h)
    · exact .inr ⟨xs, .inl e, by omega, fun x hx => (q x hx).out⟩
theorem OutV.ty : ∀ {k : Nat} {d : Dat}, OutV k d → (tyK d).isSome = true
  | 0, d, h => by cases d <;> first | rfl | cases h
  | k + 1, d, h => by
    rcases h with h | ⟨xs, rfl | rfl, _⟩
    · cases d <;> first | rfl | cases h
    · rfl
    · rfl
theorem cutD_mem {xs : List Dat} {lo hi : Option Int} {x : Dat} (h : x ∈ cutD xs lo hi) : x ∈ xs := List.mem_of_mem_drop (List.mem_of_mem_take h)
theorem cutD_len (xs : List Dat) (lo hi : Option Int) : (cutD xs lo hi).length ≤ xs.length := by
  unfold cutD
  rw [List.length_take, List.length_drop]
  omega
theorem sc__law_bent_row : FnScope ["_law_pot_here", "_law_value", "_law_at", "_law_kind"] ["_law_pot_here", "_law_value"] (defScope (top 81)) := ⟨rfl, rfl, rfl, by decide +kernel, rfl, by decide +kernel, by decide +kernel⟩
end
end Aim
namespace Aim
open PySem PySem.Spec PyProof.Rows L2 RZ
open LamX (TabB)
section
variable {P : Program} {w : World} {K : PySem.W.Frag} {mg : Str → Option Value} {base : Heap} {TT : List (Addr × Str)}
theorem let_abc {c : Nat} (h : isLet c) : decide (c ∈ abcL) = true := by
  have e : (List.range 123).all (fun c => !decide (97 ≤ c) || decide (c ∈ abcL)) = true := by decide +kernel
  have z := List.all_eq_true.mp e c (List.mem_range.mpr (by have := h.2; omega))
  rw [decide_eq_true h.1] at z
  simpa using z
theorem isNameS_mk {x : Str} (h1 : 1 ≤ x.cps.size) (h2 : x.cps.size ≤ 8) (h : ∀ c ∈ x.cps.toList, isLet c) : isNameS x = true := by
  unfold isNameS
  rw [decide_eq_true h1, decide_eq_true h2, Bool.true_and, Bool.true_and, List.all_eq_true]
  exact fun c hc => let_abc (h c hc)
theorem abcL_let {c : Nat} (h : c ∈ abcL) : isLet c := by
  have e : abcL.all (fun c => decide (97 ≤ c) && decide (c ≤ 122)) = true := by decide +kernel
  have z := List.all_eq_true.mp e c h
  rw [Bool.and_eq_true, decide_eq_true_eq, decide_eq_true_eq] at z
  exact z
theorem isNameS_of {x : Str} (h : isNameS x = true) : 1 ≤ x.cps.size ∧ x.cps.size ≤ 8 ∧ ∀ c ∈ x.cps.toList, isLet c := by
  unfold isNameS at h
  rw [Bool.and_eq_true, Bool.and_eq_true, decide_eq_true_eq, decide_eq_true_eq, List.all_eq_true] at h
  exact ⟨h.1.1, h.1.2, fun c hc => abcL_let (of_decide_eq_true (h.2 c hc))⟩
def nxName (x : Str) (i : Nat) : Str := (cutS x none (some 6) ++ ⟨#[97 + i / 26]⟩) ++ ⟨#[97 + i % 26]⟩
theorem nx_list (x : Str) (i : Nat) : (nxName x i).cps.toList = x.cps.toList.take 6 ++ [97 + i / 26, 97 + i % 26] := by
  have e : (nxName x i).cps = ((cutS x none (some 6)).cps ++ #[97 + i / 26]) ++ #[97 + i % 26] := rfl
  rw [e, Array.toList_append, Array.toList_append]
  unfold cutS
  have s : HT.sIx x.length x.length (some 6) = min 6 x.length := HT.sIx_nat x.length x.length 6
  rw [s, HT.sIx_none, List.append_assoc]
  show ((x.cps.toList.drop 0).take (min 6 x.length - 0)) ++ _ = _
  rw [List.drop_zero, Nat.sub_zero]
  congr 1
  rw [show x.length = x.cps.toList.length from (Array.length_toList).symm]
  by_cases h : 6 ≤ x.cps.toList.length
  · rw [Nat.min_eq_left h]
  · rw [Nat.min_eq_right (by omega), List.take_of_length_le (Nat.le_refl _), List.take_of_length_le (by omega)]
theorem nx_name {x : Str} {i : Nat} (h : isNameS x = true) (hi : i < 676) : isNameS (nxName x i) = true := by
  obtain ⟨h1, h2, h3⟩ := isNameS_of h
  have l : (nxName x i).cps.size = min 6 x.cps.size + 2 := by
    rw [← Array.length_toList, nx_list, List.length_append, List.length_take, Array.length_toList]
    rfl
  refine isNameS_mk (by omega) (by omega) fun c hc => ?_
  rw [nx_list] at hc
  rcases List.mem_append.mp hc with hc | hc
  · exact h3 c (List.mem_of_mem_take hc)
  · simp only [List.mem_cons, List.not_mem_nil, or_false] at hc
    rcases hc with rfl | rfl
    · exact ⟨by omega, by omega⟩
    · exact ⟨by omega, by omega⟩
def tl2 (y : Str) : List Nat := y.cps.toList.reverse.take 2
theorem nx_tl (x : Str) (i : Nat) : tl2 (nxName x i) = [97 + i % 26, 97 + i / 26] := by
  unfold tl2
  rw [nx_list, List.reverse_append]
  rfl
theorem few_tl {S : List Str} (h : ∀ j < 100, ∃ y ∈ S, tl2 y = [97 + j % 26, 97 + j / 26]) : 100 ≤ S.length := by
  have nd : ((List.range 100).map fun j => [97 + j % 26, 97 + j / 26]).Nodup := by decide +kernel
  have sub : ((List.range 100).map fun j => [97 + j % 26, 97 + j / 26]) ⊆ S.map tl2 := fun z hz => by
    obtain ⟨j, hj, rfl⟩ := List.mem_map.mp hz
    obtain ⟨y, hy, e⟩ := h j (List.mem_range.mp hj)
    exact List.mem_map.mpr ⟨y, hy, e⟩
  have z := List.Nodup.length_le_of_subset nd sub
  rw [List.length_map, List.length_map, List.length_range] at z
  exact z
theorem plains_names : ∀ (xs : List Str), plains (xs.map Dat.str) = true
  | [] => rfl
  | x :: r => plains_names r
theorem depth_names : ∀ (xs : List Str), (py (.lst (xs.map Dat.str))).depth ≤ 60 := fun xs => by
  have e : ∀ xs : List Str, PyData.depthAll (pys (xs.map Dat.str)) ≤ 10 := fun xs => by
    induction xs with
    | nil => simp [pys, PyData.depthAll]
    | cons x r ih => simp [pys, py, PyData.depthAll, PyData.depth] at ih ⊢; omega
  have := e xs
  simp [py, PyData.depth]
  omega
theorem cmp_names (xs : List Str) : cmpOk (.lst (xs.map Dat.str)) := ⟨plains_names xs, depth_names xs⟩
theorem in_list {xs : List Str} {x : Str} : ((xs.map Dat.str).any fun y => eqD y (.str x)) = decide (x ∈ xs) := by
  rw [List.any_map]
  by_cases h : x ∈ xs
  · rw [decide_eq_true h]
    exact List.any_eq_true.mpr ⟨x, h, by show (x == x) = true; exact beq_self_eq_true x⟩
  · rw [decide_eq_false h]
    refine List.any_eq_false.mpr fun y hy z => h ?_
    have z : (y == x) = true := z
    rw [← beq_iff_eq.mp z]
    exact hy
def abcS : Str := "abcdefghijklmnopqrstuvwxyz"
theorem abcS_at {i : Int} (h0 : 0 ≤ i) (h1 : i < 26) : atI abcS.cps.toList i = some (97 + i.toNat) := abc_at h0 h1
theorem nm_name {x : Str} (h : isNm x) : isNameS x = true := isNameS_mk h.1 h.2.1 h.2.2
def spLetX : DSp := fun ds n Q _ => ∃ i : Int, ds = [.int i] ∧ 0 ≤ i ∧ i < 26 ∧ Q (.str ⟨#[97 + i.toNat]⟩) n
theorem ok_letX {G : Bool} (F : Has K mg "_law_letter" (top 68)) (T : Blt mg) : Df P w K mg base G 1 "_law_letter" (LSp K TT spLetX) := by
  refine dat_ok F (fun f fd F => F.binds (fun _ _ _ _ _ _ us hl => by obtain ⟨x0, rfl⟩ := us1 hl; rfl)) sc__law_letter (fun f cdv A outer s H E hr hG => ⟨_, (dss_one (ds_ret (de_ix ix_seq od_ix de_str (de_var (pv 0)) (fun _ _ => rfl)))), fun ds n PP R h => ?_⟩) (fun ds n PP R h => ?_)
  · obtain ⟨i, rfl, i0, i1, k⟩ := h
    refine ⟨rfl, ?_⟩
    show optD (atI abcS.cps.toList i) _
    rw [abcS_at i0 i1]
    exact k
  · obtain ⟨i, rfl, _⟩ := h
    rfl
theorem sz_nat {k : Nat} (h : k ≤ 16777216) : k ≤ sizeLine := by rw [show sizeLine = 16777216 by decide +kernel]; exact h
def spFresh : DSp := fun ds n Q _ => ∃ (x : Str) (tk : List Str), ds = [.str x, .lst (tk.map .str)] ∧ isNameS x = true ∧ tk.length ≤ 90 ∧ ∀ y, isNameS y = true → y ∉ tk → Q (.str y) n
theorem sc__law_fresh : FnScope ["_law_name_here", "_law_taken", "_law_at", "_law_other"] ["_law_name_here", "_law_taken"] (defScope (top 71)) := ⟨rfl, rfl, rfl, by decide +kernel, rfl, by decide +kernel, by decide +kernel⟩
theorem ok_fresh {G : Bool} (F : Has K mg "_law_fresh" (top 71)) (T : Blt mg) (D__law_letter : Df P w K mg base false 1 "_law_letter" (LSp K TT spLetX)) : Df P w K mg base G 2 "_law_fresh" (LSp K TT spFresh) := by
  refine dat_ok F (fun f fd F => F.binds (fun _ _ _ _ _ _ us hl => by obtain ⟨x0, x1, rfl⟩ := us2 hl; rfl)) sc__law_fresh (fun f cdv A outer s H E hr hG => ⟨_, (dss_cons (ds_if (dt_cmp (op_notInAny (units65 hr)) od_notInAny (de_var (pv 0)) (de_var (pv 1)) (by rfl)) (dss_one (ds_ret (de_var (pv 0)))) dss_nil)
      (dss_cons (ds_forI PassesOwn.never rfl (di_rng1 (pi_range1 rfl T.n_range (da_cons de_int da_nil))) (dg_name (pg_name (i := 2) sc__law_fresh.nd rfl (Or.inl rfl) (Or.inl rfl))) (dss_cons (ds_set (i := 3) sc__law_fresh.nd rfl (Or.inl rfl) (de_op op_addAny od_add (de_op op_addAny od_add (de_sl (de_var (pv 0)) do_none (do_some de_int)) (de_call D__law_letter hr (by first | decide | omega) (by first | exact hG | (intro z; cases z)) rfl passL (da_cons (de_op op_fdivW (od_IC _) (de_cb cd_int (pe_callTy call_intA rfl T.n_int boot_int (da_cons (de_var (pv 2)) da_nil))) de_int) da_nil))) (de_call D__law_letter hr (by first | decide | omega) (by first | exact hG | (intro z; cases z)) rfl passL (da_cons (de_op op_mod (od_IC _) (de_cb cd_int (pe_callTy call_intA rfl T.n_int boot_int (da_cons (de_var (pv 2)) da_nil))) de_int) da_nil))))
      (dss_one (ds_if (dt_cmp (op_notInAny (units65 hr)) od_notInAny (de_var (pv 3)) (de_var (pv 1)) (by rfl)) (dss_one (ds_ret (de_var (pv 3)))) dss_nil))))
      (dss_one (ds_ret (de_var (pv 0)))))), fun ds n PP R h => ?_⟩) (fun ds n PP R h => ?_)
  · obtain ⟨x, tk, rfl, hx, ht, k⟩ := h
    refine ⟨rfl, ?_⟩
    obtain ⟨x1, x8, _⟩ := isNameS_of hx
    have cl := cutS_length x none (some 6)
    have xl : x.length = x.cps.size := rfl
    have sz : sizeLine = 16777216 := by decide +kernel
    refine .inl ⟨⟨cmp_fl rfl, cmp_names tk⟩, ?_⟩
    rw [in_list]
    refine ite2 (fun c => k x hx fun z => ?_) (fun c => ?_)
    · rw [decide_eq_true z] at c
      cases c
    refine ⟨by decide, fun i ρ' m => ∃ s2 s3 : Sl, ρ' = [.val (.str x), .val (.lst (tk.map .str)), s2, s3] ∧ m = n ∧ ∀ q < i, ∃ y ∈ tk, tl2 y = [97 + q % 26, 97 + q / 26], ⟨.no, .no, rfl, rfl, fun q hq => by omega⟩, ?_, ?_⟩
    · rintro i a ρ' m ha ⟨s2, s3, rfl, rfl, hq⟩
      have hi : i < 676 := by
        have z := (List.getElem?_eq_some_iff.mp ha).1
        rw [numL_len] at z
        exact z
      replace ha : (numL 0 676)[i]? = some a := ha
      rw [numL_get _ _ _ hi] at ha
      cases ha
      have d1 : ((0 + (i : Int)) / 26).toNat = i / 26 := by omega
      have d2 : ((0 + (i : Int)) % 26).toNat = i % 26 := by omega
      refine ⟨⟨by decide, by decide⟩, ?_⟩
      refine ⟨_, rfl, by omega, by omega, ?_⟩
      rw [d1]
      refine ⟨by show _ + 1 ≤ _; omega, ?_⟩
      refine ⟨(by decide : (0 : Int) < 26), ?_⟩
      refine ⟨_, rfl, by omega, by omega, ?_⟩
      rw [d2]
      refine ⟨by
        have e : (cutS x none (some 6) ++ (⟨#[97 + i / 26]⟩ : Str)).length = (cutS x none (some 6)).length + 1 := by
          show ((cutS x none (some 6)).cps ++ #[97 + i / 26]).size = _
          rw [Array.size_append]
          rfl
        rw [e]
        show _ + 1 ≤ _
        omega, ?_⟩
      refine .inl ⟨⟨cmp_fl rfl, cmp_names tk⟩, ?_⟩
      rw [in_list]
      refine ite2 (fun c => ?_) (fun c => ?_)
      · refine k (nxName x i) (nx_name hx hi) fun z => ?_
        have c : (!decide (nxName x i ∈ tk)) = true := c
        rw [decide_eq_true z] at c
        cases c
      · refine ⟨_, _, rfl, rfl, fun p hp => ?_⟩
        rcases Nat.lt_succ_iff_lt_or_eq.mp hp with hp | rfl
        · exact hq p hp
        · refine ⟨nxName x p, ?_, nx_tl x p⟩
          have c : ¬ (!decide (nxName x p ∈ tk)) = true := c
          simpa using c
    · rintro ρ' m ⟨s2, s3, rfl, rfl, hq⟩
      exfalso
      have hq : ∀ q < 676, ∃ y ∈ tk, tl2 y = [97 + q % 26, 97 + q / 26] := hq
      have z := few_tl fun j hj => hq j (by omega)
      omega
  · obtain ⟨x, tk, rfl, _⟩ := h
    rfl
end
end Aim
namespace Aim
open PySem PySem.Spec PyProof.Rows L2 RZ
open LamX (TabB)
section
variable {P : Program} {w : World} {K : PySem.W.Frag} {mg : Str → Option Value} {base : Heap} {TT : List (Addr × Str)}
def spNamesW : DSpF := fun ds n Q _ => ∃ (k : Nat) (tk : List Str), ds = [.pot, .int k, .lst (tk.map .str)] ∧ k ≤ 40 ∧ tk.length ≤ 40 ∧ n < 850000 ∧ ∀ (xs : List Str) m, n ≤ m → m ≤ n + 14 * k → xs.length = k → xs.Nodup → (∀ x ∈ xs, isNameS x = true ∧ x ∉ tk) → Q (xs.map .str) m
theorem last_at {fs : List Str} (h : fs ≠ []) : ∃ y, y ∈ fs ∧ atI (fs.map Dat.str) (-1) = some (.str y) := by
  have l : 0 < fs.length := List.length_pos_iff.mpr h
  refine ⟨fs[fs.length - 1], List.getElem_mem _, ?_⟩
  unfold atI ixN
  rw [List.length_map, if_neg (by omega), if_pos (by omega)]
  show (fs.map Dat.str)[((-1 : Int) + (fs.length : Int)).toNat]? = _
  rw [show ((-1 : Int) + (fs.length : Int)).toNat = fs.length - 1 by omega, List.getElem?_map, List.getElem?_eq_getElem (by omega)]
  rfl
theorem cutS_list (x : Str) (lo hi : Option Int) : (cutS x lo hi).cps.toList = (x.cps.toList.drop (HT.sIx x.length 0 lo)).take (HT.sIx x.length x.length hi - HT.sIx x.length 0 lo) := rfl
theorem near_name {y : Str} {c : Nat} {r : Int} (h : isNameS y = true) (hc : isLet c) (r0 : 0 ≤ r) (r1 : r < (y.length : Int)) : isNameS ((cutS y none (some r) ++ ⟨#[c]⟩) ++ cutS y (some (r + 1)) none) = true := by
  obtain ⟨h1, h2, h3⟩ := isNameS_of h
  obtain ⟨k, rfl⟩ : ∃ k : Nat, r = (k : Int) := ⟨r.toNat, by omega⟩
  have kl : k < y.cps.size := by
    have : y.length = y.cps.size := rfl
    omega
  have e : ((cutS y none (some (k : Int)) ++ (⟨#[c]⟩ : Str)) ++ cutS y (some ((k : Int) + 1)) none).cps.toList = y.cps.toList.take k ++ [c] ++ y.cps.toList.drop (k + 1) := by
    show ((cutS y none (some (k : Int))).cps ++ #[c] ++ (cutS y (some ((k : Int) + 1)) none).cps).toList = _
    rw [Array.toList_append, Array.toList_append, cutS_list, cutS_list]
    have s1 : HT.sIx y.length y.length (some (k : Int)) = k := by
      rw [HT.sIx_nat]
      exact Nat.min_eq_left (Nat.le_of_lt kl)
    have s2 : HT.sIx y.length 0 (some ((k : Int) + 1)) = k + 1 := by
      rw [show (k : Int) + 1 = ((k + 1 : Nat) : Int) by push_cast; rfl, HT.sIx_nat]
      exact Nat.min_eq_left kl
    rw [s1, s2, HT.sIx_none, HT.sIx_none, List.drop_zero, Nat.sub_zero]
    congr 1
    refine List.take_of_length_le ?_
    rw [List.length_drop, Array.length_toList]
    show _ ≤ y.cps.size - (k + 1)
    omega
  have l : ((cutS y none (some (k : Int)) ++ (⟨#[c]⟩ : Str)) ++ cutS y (some ((k : Int) + 1)) none).cps.size = y.cps.size := by
    rw [← Array.length_toList, e, List.length_append, List.length_append, List.length_take, List.length_drop, Array.length_toList, List.length_singleton]
    omega
  refine isNameS_mk (by omega) (by omega) fun d hd => ?_
  rw [e] at hd
  rcases List.mem_append.mp hd with hd | hd
  · rcases List.mem_append.mp hd with hd | hd
    · exact h3 d (List.mem_of_mem_take hd)
    · rw [List.mem_singleton.mp hd]
      exact hc
  · exact h3 d (List.mem_of_mem_drop hd)
theorem sc__law_names : FnScope ["_law_pot_here", "_law_many", "_law_taken", "_law_found", "_law_turn", "_law_name_here", "_law_at"] ["_law_pot_here", "_law_many", "_law_taken"] (defScope (top 72)) := ⟨rfl, rfl, rfl, by decide +kernel, rfl, by decide +kernel, by decide +kernel⟩
theorem ok_namesW {G : Bool} (F : Has K mg "_law_names" (top 72)) (T : Blt mg) (D__law_take : Df P w K mg base false 1 "_law_take" (LSp K TT spTake)) (D__law_name : Df P w K mg base false 4 "_law_name" (LSp K TT spName)) (D__law_letter : Df P w K mg base false 1 "_law_letter" (LSp K TT spLetX)) (D__law_fresh : Df P w K mg base false 2 "_law_fresh" (LSp K TT spFresh)) : Df P w K mg base G 5 "_law_names" (LSpF K TT spNamesW) := by
  refine dat_okF F (fun f fd F => F.binds (fun _ _ _ _ _ _ us hl => by obtain ⟨x0, x1, x2, rfl⟩ := us3 hl; rfl)) sc__law_names (fun f cdv A outer s H E hr hG => ⟨_, (dsf_cons (ds_own (ps_asg (L2.PE.imp (pe_lst da_nil) fun _ _ _ h => lf_disp h) (pg_name (i := 3) sc__law_names.nd rfl (Or.inl rfl))))
      (dsf_cons (ds_forI PassesOwn.never rfl (di_rng1 (pi_range1 rfl T.n_range (da_cons (de_var (pv 1)) da_nil))) (dg_name (pg_name (i := 4) sc__law_names.nd rfl (Or.inl rfl) (Or.inl rfl))) (dss_cons (ds_set (i := 5) sc__law_names.nd rfl (Or.inl rfl) (de_call D__law_name hr (by first | decide | omega) (by first | exact hG | (intro z; cases z)) rfl passL (da_cons (de_var (pv 0)) da_nil)))
      (dss_cut (ds_if (PW.pt (dw_and (dt_bor (i := 3) (dt_cmp (op_neDD hr.units) od_ne (de_var (pv 3)) (de_lst da_nil) (nomark _))) (dw_and1 (dt_cmp (op_eqDD hr.units) od_eq (de_call D__law_take hr (by first | decide | omega) (by first | exact hG | (intro z; cases z)) rfl passL (da_cons (de_var (pv 0)) (da_cons de_int da_nil))) de_int (nomark _))))) (dss_cons (ds_set (i := 6) sc__law_names.nd rfl (Or.inl rfl) (de_call D__law_take hr (by first | decide | omega) (by first | exact hG | (intro z; cases z)) rfl passL (da_cons (de_var (pv 0)) (da_cons (de_bor (i := 3) (de_cb cd_len (pe_callB call_len rfl T.n_len boot_len (da_cons (de_ix ix_seq od_ix (de_var (pv 3)) (de_neg de_int) (fun _ _ => rfl)) da_nil)))) da_nil))))
      (dss_one (ds_set (i := 5) sc__law_names.nd rfl (Or.inl rfl) (de_op op_addAny od_add (de_op op_addAny od_add (de_bor (i := 3) (de_sl (de_ix ix_seq od_ix (de_var (pv 3)) (de_neg de_int) (fun _ _ => rfl)) do_none (do_some (de_var (pv 6))))) (de_call D__law_letter hr (by first | decide | omega) (by first | exact hG | (intro z; cases z)) rfl passL (da_cons (de_call D__law_take hr (by first | decide | omega) (by first | exact hG | (intro z; cases z)) rfl passL (da_cons (de_var (pv 0)) (da_cons de_int da_nil))) da_nil))) (de_bor (i := 3) (de_sl (de_ix ix_seq od_ix (de_var (pv 3)) (de_neg de_int) (fun _ _ => rfl)) (do_some (de_op op_addAny od_add (de_var (pv 6)) de_int)) do_none)))))) dss_nil)
      (dss_one (ds_om od_append (ps_om (i := 3) PySem.F.slot_list_append PySem.F.type_list_append mt_append rfl (by first | exact Or.inl rfl | exact Or.inr (Or.inl rfl)) (da_cons (de_bor (i := 3) (de_call D__law_fresh hr (by first | decide | omega) (by first | exact hG | (intro z; cases z)) rfl passL (da_cons (de_var (pv 5)) (da_cons (de_op op_addAny od_add (de_var (pv 2)) (de_var (pv 3))) da_nil)))) da_nil)))))))
      (dsf_ret (pv 3)))), fun ds n PP R h => ?_⟩) (fun ds n PP R h => ?_)
  · obtain ⟨many, tk, rfl, hm, ht, hn, k⟩ := h
    refine ⟨rfl, ?_⟩
    refine ⟨Nat.zero_le _, ?_⟩
    refine ⟨by omega, fun i ρ' m => ∃ (fs : List Str) (s4 s5 s6 : Sl), ρ' = [.val .pot, .val (.int many), .val (.lst (tk.map .str)), .own (fs.map .str), s4, s5, s6] ∧ fs.length = i ∧ i ≤ many ∧ fs.Nodup ∧ (∀ x ∈ fs, isNameS x = true ∧ x ∉ tk) ∧ n ≤ m ∧ m ≤ n + 14 * i, ⟨[], .no, .no, .no, rfl, rfl, Nat.zero_le _, List.nodup_nil, fun x hx => by simp at hx, by omega, by omega⟩, ?_, ?_⟩
    · rintro i a ρ' m ha ⟨fs, s4, s5, s6, rfl, hl, hi, nd, hf, m1, m2⟩
      have hi2 : i < many := by
        have z := (List.getElem?_eq_some_iff.mp ha).1
        rw [numL_len] at z
        omega
      refine ⟨rfl, by omega, fun x m3 hx h3 h4 => ?_⟩
      refine ⟨fun ρ' m5 => ∃ (z : Str) (s6 : Sl), ρ' = [.val .pot, .val (.int many), .val (.lst (tk.map .str)), .own (fs.map .str), .val a, .val (.str z), s6] ∧ isNameS z = true ∧ m3 ≤ m5 ∧ m5 ≤ m3 + 3, ?_, ?_⟩
      · refine ⟨Nat.zero_le _, ⟨cmp_names fs, cmp_names []⟩, ?_⟩
        by_cases fe : fs = []
        · subst fe
          exact ⟨x, _, rfl, nm_name hx, by omega, by omega⟩
        have ne : (!eqD (.lst (fs.map Dat.str)) (.lst [])) = true := by
          cases fs with
          | nil => exact absurd rfl fe
          | cons f r => rfl
        rw [ne]
        refine ⟨3, rfl, by omega, by decide, by decide, fun r r0 r1 => ⟨⟨cmp_fl rfl, cmp_fl rfl⟩, ?_⟩⟩
        refine ite2 (fun c => ?_) (fun c => ?_)
        · obtain ⟨y, hy, ha⟩ := last_at fe
          obtain ⟨hn1, _⟩ := hf y hy
          obtain ⟨y1, y8, _⟩ := isNameS_of hn1
          have yl : y.length = y.cps.size := rfl
          have sz : sizeLine = 16777216 := by decide +kernel
          show optD (atI (fs.map Dat.str) (-1)) _
          rw [ha]
          refine ⟨rfl, (y.length : Nat), rfl, by omega, by omega, by omega, fun r2 r20 r21 => ?_⟩
          show optD (atI (fs.map Dat.str) (-1)) _
          rw [ha]
          refine ⟨rfl, ?_⟩
          refine ⟨26, rfl, by omega, by decide, by decide, fun r3 r30 r31 => ?_⟩
          refine ⟨r3, rfl, r30, r31, ?_⟩
          have c1 := cutS_length y none (some r2)
          have c2 := cutS_length y (some (r2 + 1)) none
          refine ⟨by show _ + 1 ≤ _; omega, ?_⟩
          show optD (atI (fs.map Dat.str) (-1)) _
          rw [ha]
          refine ⟨rfl, ?_⟩
          have e : (cutS y none (some r2) ++ (⟨#[97 + r3.toNat]⟩ : Str)).length = (cutS y none (some r2)).length + 1 := by
            show ((cutS y none (some r2)).cps ++ #[97 + r3.toNat]).size = _
            rw [Array.size_append]
            rfl
          refine ⟨by rw [e]; omega, ?_⟩
          exact ⟨_, _, rfl, near_name hn1 ⟨by omega, by omega⟩ r20 r21, by omega, by omega⟩
        · exact ⟨x, _, rfl, nm_name hx, by omega, by omega⟩
      · rintro ρ' m5 ⟨z, s6, rfl, hz, h5, h6⟩
        refine ⟨by rw [List.length_map, List.length_map]; have := sz_nat (k := 100) (by decide); omega, ?_⟩
        refine ⟨z, tk ++ fs, by rw [List.map_append], hz, by rw [List.length_append]; omega, fun y hy hny => ⟨rfl, ?_⟩⟩
        rw [List.mem_append, not_or] at hny
        refine ⟨by rw [List.length_map]; have := sz_nat (k := 100) (by decide); omega, fs ++ [y], _, _, _, by rw [List.map_append]; rfl, by rw [List.length_append, hl]; rfl, by omega, ?_, fun u hu => ?_, by omega, by omega⟩
        · rw [List.nodup_append]
          exact ⟨nd, by simp, fun a ha b hb e => hny.2 (by rw [← List.mem_singleton.mp hb, ← e]; exact ha)⟩
        · rcases List.mem_append.mp hu with hu | hu
          · exact hf u hu
          · rw [List.mem_singleton.mp hu]
            exact ⟨hy, hny.1⟩
    · rintro ρ' m ⟨fs, s4, s5, s6, rfl, hl, hi, nd, hf, m1, m2⟩
      rw [numL_len] at hl m2
      exact k fs m m1 (by omega) (by omega) nd hf
  · obtain ⟨many, tk, rfl, _⟩ := h
    rfl
end
end Aim
namespace Aim
open PySem PySem.Spec PyProof.Rows L2 RZ
open LamX (TabB)
section
variable {P : Program} {w : World} {K : PySem.W.Frag} {mg : Str → Option Value} {base : Heap} {TT : List (Addr × Str)}
theorem areNames_eq {xs : List Str} {lo hi : Int} (nd : xs.Nodup) (h : ∀ x ∈ xs, isNameS x = true) : areNames (namesD xs) lo hi = (decide (lo ≤ (xs.length : Int)) && decide ((xs.length : Int) ≤ hi)) := by
  show (decide (lo ≤ ((xs.map Dat.str).length : Int)) && decide (((xs.map Dat.str).length : Int) ≤ hi) && (xs.map Dat.str).all isNameD && decide ((textsOf (xs.map Dat.str)).Nodup)) = _
  have al : (xs.map Dat.str).all isNameD = true := List.all_eq_true.mpr fun y hy => by
    obtain ⟨x, hx, rfl⟩ := List.mem_map.mp hy
    exact h x hx
  rw [textsOf_map, decide_eq_true nd, al, List.length_map, Bool.and_true, Bool.and_true]
def spChangeW : DSp := fun ds n Q _ => ∃ ps nm : List Str, ds = [.pot, .lst (ps.map .str), .lst (nm.map .str)] ∧ (0 < ps.length ∧ ps.length ≤ 1000) ∧ (0 < nm.length ∧ nm.length ≤ 1000) ∧ (∀ x ∈ ps, isNameS x = true) ∧ (∀ x ∈ nm, isNameS x = true) ∧ n < 840000 ∧ ∀ c m, isChange ps (some nm) c = true → n ≤ m → m ≤ n + 3 → Q c m
theorem isPlace_in {ps : List Str} {p : Str} (h : ∀ x ∈ ps, isNameS x = true) (hp : p ∈ ps) : isPlace (.str p) ps = true := by
  show (isNameS p && decide (p ∈ ps)) = true
  rw [h p hp, decide_eq_true hp]
  rfl
theorem isPartO_in {nm : List Str} {p : Str} (h : ∀ x ∈ nm, isNameS x = true) (hp : p ∈ nm) : isPartO (.str p) (some nm) = true := by
  show (isNameS p && decide (p ∈ nm)) = true
  rw [h p hp, decide_eq_true hp]
  rfl
theorem sc__law_change : FnScope ["_law_pot_here", "_law_places", "_law_parts", "_law_kind", "_law_place"] ["_law_pot_here", "_law_places", "_law_parts"] (defScope (top 73)) := ⟨rfl, rfl, rfl, by decide +kernel, rfl, by decide +kernel, by decide +kernel⟩
theorem ok_changeW {G : Bool} (F : Has K mg "_law_change" (top 73)) (T : Blt mg) (D__law_of : Df P w K mg base false 2 "_law_of" (LSp K TT spOf)) : Df P w K mg base G 3 "_law_change" (LSp K TT spChangeW) := by
  refine dat_ok F (fun f fd F => F.binds (fun _ _ _ _ _ _ us hl => by obtain ⟨x0, x1, x2, rfl⟩ := us3 hl; rfl)) sc__law_change (fun f cdv A outer s H E hr hG => ⟨_, (dss_cons (ds_set (i := 3) sc__law_change.nd rfl (Or.inl rfl) (de_call D__law_of hr (by first | decide | omega) (by first | exact hG | (intro z; cases z)) rfl passL (da_cons (de_var (pv 0)) (da_cons (de_lst (da_cons de_str (da_cons de_str (da_cons de_str (da_cons de_str (da_cons de_str (da_cons de_str da_nil))))))) da_nil))))
      (dss_cons (ds_set (i := 4) sc__law_change.nd rfl (Or.inl rfl) (de_call D__law_of hr (by first | decide | omega) (by first | exact hG | (intro z; cases z)) rfl passL (da_cons (de_var (pv 0)) (da_cons (de_var (pv 1)) da_nil))))
      (dss_cons (ds_if (dt_cmp (op_eqDD hr.units) od_eq (de_var (pv 3)) de_str (nomark _)) (dss_one (ds_ret (de_tup (da_cons (de_var (pv 3)) (da_cons (de_var (pv 4)) da_nil))))) dss_nil)
      (dss_one (ds_ret (de_tup (da_cons (de_var (pv 3)) (da_cons (de_var (pv 4)) (da_cons (de_call D__law_of hr (by first | decide | omega) (by first | exact hG | (intro z; cases z)) rfl passL (da_cons (de_var (pv 0)) (da_cons (de_if (dt_cmp (op_eqDD hr.units) od_eq (de_var (pv 3)) de_str (nomark _)) (de_var (pv 1)) (de_var (pv 2))) da_nil))) da_nil))))))))), fun ds n PP R h => ?_⟩) (fun ds n PP R h => ?_)
  · obtain ⟨ps, nm, rfl, ⟨p0, p1⟩, ⟨q0, q1⟩, hp, hq, hn, k⟩ := h
    refine ⟨rfl, ?_⟩
    refine ⟨sz_nat (by decide), [.str "put", .str "put", .str "take", .str "swap", .str "push", .str "push"], .inl rfl, by omega, by decide, by decide, fun v hv => ?_⟩
    refine ⟨ps.map .str, .inl rfl, by omega, by rw [List.length_map]; exact p0, by rw [List.length_map]; omega, fun u hu => ?_⟩
    obtain ⟨p, hp2, rfl⟩ := List.mem_map.mp hu
    have hv2 : v = .str "take" ∨ v = .str "swap" ∨ ∃ x : Str, v = .str x ∧ (x = "put" ∨ x = "push") := by
      simp only [List.mem_cons, List.not_mem_nil, or_false] at hv
      rcases hv with rfl | rfl | rfl | rfl | rfl | rfl
      · exact .inr (.inr ⟨_, rfl, .inl rfl⟩)
      · exact .inr (.inr ⟨_, rfl, .inl rfl⟩)
      · exact .inl rfl
      · exact .inr (.inl rfl)
      · exact .inr (.inr ⟨_, rfl, .inr rfl⟩)
      · exact .inr (.inr ⟨_, rfl, .inr rfl⟩)
    rcases hv2 with rfl | rfl | ⟨x, rfl, hx⟩
    · refine ⟨⟨cmp_fl rfl, cmp_fl rfl⟩, sz_nat (show 2 ≤ 16777216 by decide), k _ _ ?_ (by omega) (by omega)⟩
      show (isPlace (.str p) ps && decide (("take" : Str) = "take")) = true
      rw [isPlace_in hp hp2]
      rfl
    · refine ⟨⟨cmp_fl rfl, cmp_fl rfl⟩, ⟨cmp_fl rfl, cmp_fl rfl⟩, ps.map .str, .inl rfl, by omega, by rw [List.length_map]; exact p0, by rw [List.length_map]; omega, fun u2 hu2 => ?_⟩
      obtain ⟨p', hp3, rfl⟩ := List.mem_map.mp hu2
      refine ⟨sz_nat (show 3 ≤ 16777216 by decide), k _ _ ?_ (by omega) (by omega)⟩
      show (isPlace (.str p) ps && (if ("swap" : Str) = "swap" then isPlace (.str p') ps else _)) = true
      rw [isPlace_in hp hp2, if_pos rfl, isPlace_in hp hp3]
      rfl
    · have n1 : eqD (.str x) (.str "take") = false := by
        rw [eqD_str]
        rcases hx with rfl | rfl <;> rfl
      have n2 : eqD (.str x) (.str "swap") = false := by
        rw [eqD_str]
        rcases hx with rfl | rfl <;> rfl
      refine ⟨⟨cmp_fl rfl, cmp_fl rfl⟩, ?_⟩
      rw [n1]
      refine ⟨⟨cmp_fl rfl, cmp_fl rfl⟩, ?_⟩
      rw [n2]
      refine ⟨nm.map .str, .inl rfl, by omega, by rw [List.length_map]; exact q0, by rw [List.length_map]; omega, fun u2 hu2 => ?_⟩
      obtain ⟨q, hq2, rfl⟩ := List.mem_map.mp hu2
      refine ⟨sz_nat (show 3 ≤ 16777216 by decide), k _ _ ?_ (by omega) (by omega)⟩
      show (isPlace (.str p) ps && (if x = "swap" then isPlace (.str q) ps else decide (x = "put" ∨ x = "push") && isPartO (.str q) (some nm))) = true
      rw [isPlace_in hp hp2, if_neg (by rcases hx with rfl | rfl <;> decide), decide_eq_true hx, isPartO_in hq hq2]
      rfl
  · obtain ⟨ps, nm, rfl, _⟩ := h
    rfl
def spRowsW : DSp := fun ds n Q _ => ∃ ps nm : List Str, ds = [.pot, .lst (ps.map .str), .lst (nm.map .str)] ∧ (ps.length ≤ 100 ∧ ps.Nodup) ∧ (0 < nm.length ∧ nm.length ≤ 1000) ∧ (∀ x ∈ ps, isNameS x = true) ∧ (∀ x ∈ nm, isNameS x = true) ∧ n < 840000 ∧ ∀ xs m, areRows (.tup xs) ps (some nm) = true → n ≤ m → m ≤ n + 3 * ps.length → Q (.tup xs) m
theorem sc__law_rows : FnScope ["_law_pot_here", "_law_places", "_law_parts", "_law_found", "_law_place"] ["_law_pot_here", "_law_places", "_law_parts"] (defScope (top 74)) := ⟨rfl, rfl, rfl, by decide +kernel, rfl, by decide +kernel, by decide +kernel⟩
theorem ok_rowsW {G : Bool} (F : Has K mg "_law_rows" (top 74)) (T : Blt mg) (D__law_take : Df P w K mg base false 1 "_law_take" (LSp K TT spTake)) (D__law_of : Df P w K mg base false 2 "_law_of" (LSp K TT spOf)) : Df P w K mg base G 3 "_law_rows" (LSp K TT spRowsW) := by
  refine dat_ok F (fun f fd F => F.binds (fun _ _ _ _ _ _ us hl => by obtain ⟨x0, x1, x2, rfl⟩ := us3 hl; rfl)) sc__law_rows (fun f cdv A outer s H E hr hG => ⟨_, (dss_cons (ds_own (ps_asg (L2.PE.imp (pe_lst da_nil) fun _ _ _ h => lf_disp h) (pg_name (i := 3) sc__law_rows.nd rfl (Or.inl rfl))))
      (dss_cons (ds_forI PassesOwn.never rfl (di_list (de_var (pv 1))) (dg_name (pg_name (i := 4) sc__law_rows.nd rfl (Or.inl rfl) (Or.inl rfl))) (dss_one (ds_if (dt_cmp op_lt (od_IB _) (de_call D__law_take hr (by first | decide | omega) (by first | exact hG | (intro z; cases z)) rfl passL (da_cons (de_var (pv 0)) (da_cons de_int da_nil))) de_int (nomark _)) (dss_one (ds_om od_insert (ps_om (i := 3) PySem.F.slot_list_insert PySem.F.type_list_insert mt_insert rfl (by first | exact Or.inl rfl | exact Or.inr (Or.inl rfl)) (da_cons (de_call D__law_take hr (by first | decide | omega) (by first | exact hG | (intro z; cases z)) rfl passL (da_cons (de_var (pv 0)) (da_cons (de_op op_addAny od_add (de_bor (i := 3) (de_cb cd_len (pe_callB call_len rfl T.n_len boot_len (da_cons (de_var (pv 3)) da_nil)))) de_int) da_nil))) (da_cons (de_tup (da_cons (de_var (pv 4)) (da_cons (de_call D__law_of hr (by first | decide | omega) (by first | exact hG | (intro z; cases z)) rfl passL (da_cons (de_var (pv 0)) (da_cons (de_var (pv 2)) da_nil))) da_nil))) da_nil))))) dss_nil)))
      (dss_one (ds_melt (i := 3) (ds_ret (de_cb cd_tup (pe_callTy call_tupleN rfl T.n_tuple boot_tuple (da_cons (de_var (pv 3)) da_nil)))))))), fun ds n PP R h => ?_⟩) (fun ds n PP R h => ?_)
  · obtain ⟨ps, nm, rfl, ⟨p0, p1⟩, ⟨q0, q1⟩, hp, hq, hn, k⟩ := h
    refine ⟨rfl, Nat.zero_le _, ?_⟩
    refine ⟨fun i ρ' m => ∃ (fs : List (Str × Str)) (s4 : Sl), ρ' = [.val .pot, .val (.lst (ps.map .str)), .val (.lst (nm.map .str)), .own (fs.map fun p => .tup [.str p.1, .str p.2]), s4] ∧ fs.length ≤ i ∧ (fs.map (·.1)).Nodup ∧ (∀ p ∈ fs, p.1 ∈ ps.take i ∧ p.2 ∈ nm) ∧ n ≤ m ∧ m ≤ n + 3 * i, ⟨[], .no, rfl, Nat.zero_le _, List.nodup_nil, fun p hp => by simp at hp, by omega, by omega⟩, ?_, ?_⟩
    · rintro i a ρ' m ha ⟨fs, s4, rfl, hl, nd, hf, m1, m2⟩
      rw [List.getElem?_map] at ha
      obtain ⟨x, hx, rfl⟩ := Option.map_eq_some_iff.mp ha
      have hi : i < ps.length := (List.getElem?_eq_some_iff.mp hx).1
      have hx0 : ps[i] = x := (List.getElem?_eq_some_iff.mp hx).2
      refine ⟨4, rfl, by omega, by decide, by decide, fun r r0 r1 => ?_⟩
      have keep : ∀ p ∈ fs, p.1 ∈ ps.take (i + 1) ∧ p.2 ∈ nm := fun p hp2 => ⟨by
        rw [List.take_add_one]
        exact List.mem_append.mpr (.inl (hf p hp2).1), (hf p hp2).2⟩
      refine ite2 (fun c => ?_) (fun c => ⟨fs, _, rfl, by omega, nd, keep, by omega, by omega⟩)
      refine ⟨rfl, ?_⟩
      refine ⟨_, rfl, by omega, by rw [List.length_map]; omega, by rw [List.length_map]; omega, fun j j0 j1 => ?_⟩
      refine ⟨nm.map .str, .inl rfl, by omega, by rw [List.length_map]; exact q0, by rw [List.length_map]; omega, fun u hu => ?_⟩
      obtain ⟨q, hq2, rfl⟩ := List.mem_map.mp hu
      rw [List.length_map] at j1
      refine ⟨sz_nat (show 2 ≤ 16777216 by decide), ?_⟩
      have lt : (fs.map fun p => Dat.tup [.str p.1, .str p.2]).length < sizeLine := by
        rw [List.length_map]
        exact Nat.lt_of_lt_of_le (show fs.length < 200 by omega) (sz_nat (show 200 ≤ 16777216 by decide))
      refine ⟨⟨lt, j0, by omega⟩, fs.take j.toNat ++ [(x, q)] ++ fs.drop j.toNat, _, by rw [List.map_append, List.map_append, List.map_take, List.map_drop]; rfl, ?_, ?_, ?_, by omega, by omega⟩
      · rw [List.length_append, List.length_append, List.length_take, List.length_drop, List.length_singleton]
        omega
      · have pm : ((fs.take j.toNat ++ [(x, q)] ++ fs.drop j.toNat).map (·.1)).Perm (x :: fs.map (·.1)) := by
          have z : (fs.take j.toNat ++ [(x, q)] ++ fs.drop j.toNat).Perm ((x, q) :: fs) := by
            have y : (fs.take j.toNat ++ [(x, q)]).Perm ((x, q) :: fs.take j.toNat) := List.perm_append_singleton _ _
            have y2 := y.append_right (fs.drop j.toNat)
            rw [List.cons_append, List.take_append_drop] at y2
            exact y2
          exact z.map (·.1)
        refine pm.nodup_iff.mpr (List.nodup_cons.mpr ⟨fun z => ?_, nd⟩)
        obtain ⟨p, hp2, e⟩ := List.mem_map.mp z
        have y := (hf p hp2).1
        rw [e] at y
        obtain ⟨b, hb, eb⟩ := List.mem_iff_getElem.mp y
        rw [List.getElem_take] at eb
        rw [List.length_take] at hb
        have := (List.getElem_inj (h₀ := by omega) (h₁ := hi) p1).mp (eb.trans hx0.symm)
        omega
      · intro p hp2
        rcases List.mem_append.mp hp2 with hp2 | hp2
        · rcases List.mem_append.mp hp2 with hp2 | hp2
          · exact keep p (List.mem_of_mem_take hp2)
          · rw [List.mem_singleton.mp hp2]
            refine ⟨?_, hq2⟩
            rw [List.take_add_one, hx]
            exact List.mem_append.mpr (.inr (List.mem_singleton.mpr rfl))
        · exact keep p (List.mem_of_mem_drop hp2)
    · rintro ρ' m ⟨fs, s4, rfl, hl, nd, hf, m1, m2⟩
      rw [List.length_map] at hl m2
      rw [List.length_map, List.take_length] at hf
      refine k _ _ ?_ (by omega) (by omega)
      show ((fs.map fun p => Dat.tup [.str p.1, .str p.2]).all (rowOk ps (some nm)) && decide ((textsOf ((fs.map fun p => Dat.tup [.str p.1, .str p.2]).map firstOf)).Nodup)) = true
      have e : (fs.map fun p => Dat.tup [.str p.1, .str p.2]).map firstOf = (fs.map (·.1)).map Dat.str := by
        rw [List.map_map, List.map_map]
        rfl
      have a1 : (fs.map fun p => Dat.tup [.str p.1, .str p.2]).all (rowOk ps (some nm)) = true := List.all_eq_true.mpr fun y hy => by
        obtain ⟨p, hp2, rfl⟩ := List.mem_map.mp hy
        obtain ⟨z1, z2⟩ := hf p hp2
        show (isPlace (.str p.1) ps && isPartO (.str p.2) (some nm)) = true
        rw [isPlace_in hp z1, isPartO_in hq z2]
        rfl
      rw [e, textsOf_map, a1, decide_eq_true nd]
      rfl
  · obtain ⟨ps, nm, rfl, _⟩ := h
    rfl
end
end Aim
namespace Aim
open PySem PySem.Spec PyProof.Rows L2 RZ
open LamX (TabB)
def PartW (p : Str × Dat × Str) : Prop := isAct p.2.1 = true ∧ (isNameS p.2.2 = true ∨ p.2.2 = "")
structure WOk (ps : List Str) (l : List (Str × Dat × Str)) (rs : List Dat) : Prop where
  pn : ps.Nodup
  pm : ∀ x ∈ ps, isNameS x = true
  pl : 1 ≤ ps.length ∧ ps.length ≤ 4
  ln : (namesP l).Nodup
  lm : ∀ x ∈ namesP l, isNameS x = true
  lp : ∀ p ∈ l, PartW p
  ll : 1 ≤ l.length ∧ l.length ≤ 6
  rl : 1 ≤ rs.length ∧ rs.length ≤ 4
  rt : ∃ ts : List Str, rs.map firstOf = ts.map Dat.str ∧ ts.Nodup ∧ (∀ x ∈ ts, isNameS x = true) ∧ ∀ r ∈ rs, isTup r 4 = true ∧ isRoom ps l ts r = true
  ru : ∃ us : List Str, rs.flatMap roomUpd = us.map Dat.str ∧ us.length ≤ 12 ∧ us.Nodup ∧ ∀ x ∈ us, isNameS x = true ∧ x ∉ namesP l
theorem areParts_eq {l : List (Str × Dat × Str)} (nd : (namesP l).Nodup) (h : ∀ x ∈ namesP l, isNameS x = true) (hp : ∀ p ∈ l, PartW p) : areParts (partsD l) = (decide ((1 : Int) ≤ (l.length : Int)) && decide ((l.length : Int) ≤ 6)) := by
  show ((l.map fun p => Dat.tup [.str p.1, p.2.1, .str p.2.2]).all isPartRow && areNames (.tup ((l.map fun p => Dat.tup [.str p.1, p.2.1, .str p.2.2]).map firstOf)) 1 6) = _
  have al : (l.map fun p => Dat.tup [.str p.1, p.2.1, .str p.2.2]).all isPartRow = true := List.all_eq_true.mpr fun y hy => by
    obtain ⟨p, hp2, rfl⟩ := List.mem_map.mp hy
    obtain ⟨h1, h2⟩ := hp p hp2
    show (isNameS p.1 && isAct p.2.1 && (isNameS p.2.2 || isNo (.str p.2.2))) = true
    rw [h p.1 (List.mem_map.mpr ⟨p, hp2, rfl⟩), h1]
    rcases h2 with h2 | h2
    · rw [h2]
      rfl
    · rw [show isNo (.str p.2.2) = true from decide_eq_true h2, Bool.or_true]
      rfl
  rw [al, names_go_map, Bool.true_and]
  have z := areNames_eq (lo := 1) (hi := 6) nd h
  unfold namesP at z
  rw [List.length_map] at z
  exact z
theorem WOk.rooms {ps : List Str} {l : List (Str × Dat × Str)} {rs : List Dat} (W : WOk ps l rs) : areRooms (.tup rs) ps l = true := by
  obtain ⟨ts, e1, nd, nm, hr⟩ := W.rt
  obtain ⟨us, e2, ul, und, unm⟩ := W.ru
  show (rs.all (fun x => isTup x 4) && areNames (.tup (rs.map firstOf)) 1 4 && rs.all (isRoom ps l (textsOf (rs.map firstOf))) && areNames (.tup ((namesP l).map Dat.str ++ rs.flatMap roomUpd)) 1 18) = true
  have tl : ts.length = rs.length := by
    have z := congrArg List.length e1
    rw [List.length_map, List.length_map] at z
    exact z.symm
  have ll := W.ll
  have rl := W.rl
  have ln : (namesP l).length = l.length := by
    unfold namesP
    rw [List.length_map]
  rw [e1, e2, textsOf_map, ← List.map_append]
  have a1 : rs.all (fun x => isTup x 4) = true := List.all_eq_true.mpr fun r h => (hr r h).1
  have a2 : areNames (.tup (ts.map Dat.str)) 1 4 = true := by
    refine (areNames_eq (lo := 1) (hi := 4) nd nm).trans ?_
    rw [decide_eq_true (by omega), decide_eq_true (by omega)]
    rfl
  have a3 : rs.all (isRoom ps l ts) = true := List.all_eq_true.mpr fun r h => (hr r h).2
  have a4 : areNames (.tup ((namesP l ++ us).map Dat.str)) 1 18 = true := by
    refine (areNames_eq (lo := 1) (hi := 18) (by
      rw [List.nodup_append]
      exact ⟨W.ln, und, fun x hx y hy h => (unm y hy).2 (h ▸ hx)⟩) fun x hx => (List.mem_append.mp hx).elim (W.lm x) fun h => (unm x h).1).trans ?_
    rw [List.length_append, decide_eq_true (by omega), decide_eq_true (by omega)]
    rfl
  rw [a1, a2, a3, a4]
  rfl
theorem WOk.names {ps : List Str} {l : List (Str × Dat × Str)} {rs : List Dat} (W : WOk ps l rs) : areNames (namesD ps) 1 4 = true := by
  have h := W.pl
  refine (areNames_eq W.pn W.pm).trans ?_
  rw [decide_eq_true (by omega), decide_eq_true (by omega)]
  rfl
theorem WOk.parts {ps : List Str} {l : List (Str × Dat × Str)} {rs : List Dat} (W : WOk ps l rs) : areParts (partsD l) = true := by
  have h := W.ll
  refine (areParts_eq W.ln W.lm W.lp).trans ?_
  rw [decide_eq_true (by omega), decide_eq_true (by omega)]
  rfl
section
variable {ps qs : List Str} {po qo : Option (List Str)} {d : Dat}
end
end Aim
namespace Aim
open PySem PySem.Spec PyProof.Rows L2 RZ
open LamX (TabB)
def calmF : Dat → Bool
  | .non => true | .int _ => true | .str _ => true
  | _ => false
def LvC : Nat → Dat → Prop
  | 0, d => calmF d = true
  | k + 1, d => calmF d = true ∨ ∃ xs, d = .tup xs ∧ xs.length ≤ 2000 ∧ ∀ x ∈ xs, LvC k x
theorem LvC.up : ∀ {k : Nat} {d : Dat}, LvC k d → LvC (k + 1) d
  | 0, _, h => .inl h
  | k + 1, _, h => h.imp id fun ⟨xs, e, l, q⟩ => ⟨xs, e, l, fun x hx => (q x hx).up⟩
theorem LvC.le {k j : Nat} {d : Dat} (h : LvC k d) (hj : k ≤ j) : LvC j d := by
  induction hj with
  | refl => exact h
  | step _ ih => exact ih.up
theorem LvC.fl {d : Dat} (h : calmF d = true) : ∀ k, LvC k d
  | 0 => h
  | _ + 1 => .inl h
theorem LvC.mk {k : Nat} {xs : List Dat} (l : xs.length ≤ 2000) (h : ∀ x ∈ xs, LvC k x) : LvC (k + 1) (.tup xs) := .inr ⟨xs, rfl, l, h⟩
theorem plains_of : ∀ {xs : List Dat}, (∀ x ∈ xs, plain x = true) → plains xs = true
  | [], _ => rfl
  | x :: r, h => by
    show (plain x && plains r) = true
    rw [h x List.mem_cons_self, plains_of fun y hy => h y (List.mem_cons_of_mem _ hy)]
    rfl
theorem LvC.plain : ∀ {k : Nat} {d : Dat}, LvC k d → Aim.plain d = true
  | 0, d, h => by cases d <;> first | rfl | cases h
  | k + 1, d, h => by
    rcases h with h | ⟨xs, rfl, _, q⟩
    · cases d <;> first | rfl | cases h
    · exact plains_of fun x hx => (q x hx).plain
theorem LvC.kn : ∀ {k : Nat} {d : Dat}, LvC k d → Kn k d
  | 0, d, h => by cases d <;> first | rfl | cases h
  | k + 1, d, h => by
    rcases h with h | ⟨xs, rfl, l, q⟩
    · refine ⟨?_, fun ys e => ?_⟩
      · cases d <;> first | rfl | cases h
      · rw [e] at h
        cases h
    · exact ⟨rfl, fun ys e => by
        cases e
        exact ⟨l, fun x hx => (q x hx).kn⟩⟩
theorem depthAll_le {j : Nat} : ∀ {xs : List Dat}, (∀ x ∈ xs, (py x).depth ≤ j) → PyData.depthAll (pys xs) ≤ j
  | [], _ => Nat.zero_le _
  | x :: r, h => by
    show PyData.depthAll (py x :: pys r) ≤ j
    have h1 := h x List.mem_cons_self
    have h2 := depthAll_le (j := j) fun y hy => h y (List.mem_cons_of_mem _ hy)
    simp only [PyData.depthAll]
    omega
theorem LvC.depth : ∀ {k : Nat} {d : Dat}, LvC k d → (py d).depth ≤ k + 1
  | 0, d, h => by cases d <;> first | (simp [py, PyData.depth]; done) | cases h
  | k + 1, d, h => by
    rcases h with h | ⟨xs, rfl, l, q⟩
    · cases d <;> first | (simp [py, PyData.depth]; done) | cases h
    · have z := depthAll_le (j := k + 1) fun x hx => (q x hx).depth
      show PyData.depth (.tuple (pys xs)) ≤ _
      simp only [PyData.depth]
      omega
theorem eqs_same {k : Nat} (ih : ∀ {d e : Dat}, LvC k d → LvC k e → eqD d e = sameD d e) : ∀ {xs ys : List Dat}, (∀ x ∈ xs, LvC k x) → (∀ y ∈ ys, LvC k y) → PyData.eqvAll (pys xs) (pys ys) = sameDs xs ys
  | [], [], _, _ => rfl
  | [], _ :: _, _, _ => rfl
  | _ :: _, [], _, _ => rfl
  | x :: xs, y :: ys, h1, h2 => by
    show (PyData.eqv (py x) (py y) && PyData.eqvAll (pys xs) (pys ys)) = (sameD x y && sameDs xs ys)
    rw [eqs_same ih (fun z hz => h1 z (List.mem_cons_of_mem _ hz)) fun z hz => h2 z (List.mem_cons_of_mem _ hz), show PyData.eqv (py x) (py y) = sameD x y from ih (h1 x List.mem_cons_self) (h2 y List.mem_cons_self)]
theorem LvC.eq : ∀ {k : Nat} {d e : Dat}, LvC k d → LvC k e → eqD d e = sameD d e
  | 0, d, e, h1, h2 => by
    cases d <;> first | cases h1 | skip
    all_goals cases e <;> first | rfl | cases h2
  | k + 1, d, e, h1, h2 => by
    rcases h1 with h1 | ⟨xs, rfl, _, q1⟩
    · rcases h2 with h2 | ⟨ys, rfl, _, q2⟩
      · cases d <;> first | cases h1 | skip
        all_goals cases e <;> first | rfl | cases h2
      · cases d <;> first | rfl | cases h1
    · rcases h2 with h2 | ⟨ys, rfl, _, q2⟩
      · cases e <;> first | rfl | cases h2
      · exact eqs_same (fun a b => LvC.eq a b) q1 q2
theorem calm_names {ps : List Str} (k : Nat) (h : ps.length ≤ 2000) : LvC (k + 1) (namesD ps) := .mk (by rw [List.length_map]; exact h) fun x hx => by
  obtain ⟨y, _, rfl⟩ := List.mem_map.mp hx
  exact .fl rfl k
end Aim
namespace Aim
open PySem PySem.Spec PyProof.Rows L2 RZ
open LamX (TabB)
theorem calm_act {b : Dat} (h : isAct b = true) : calmF b = true := by cases b <;> first | rfl | cases h
theorem calm_parts {l : List (Str × Dat × Str)} (h : l.length ≤ 2000) (hp : ∀ p ∈ l, PartW p) : LvC 2 (partsD l) := .mk (by rw [List.length_map]; exact h) fun x hx => by
  obtain ⟨p, hp2, rfl⟩ := List.mem_map.mp hx
  have z := (hp p hp2).1
  refine .mk (show 3 ≤ 2000 by decide) fun y hy => ?_
  simp only [List.mem_cons, List.not_mem_nil, or_false] at hy
  rcases hy with rfl | rfl | rfl
  · exact .fl rfl 0
  · exact .fl (calm_act z) 0
  · exact .fl rfl 0
theorem calm_name {d : Dat} (h : isNameD d = true) : calmF d = true := by cases d <;> first | rfl | cases h
theorem calm_place {d : Dat} {ps : List Str} (h : isPlace d ps = true) : calmF d = true := by
  unfold isPlace at h
  rw [Bool.and_eq_true] at h
  exact calm_name h.1
theorem calm_partO {d : Dat} {po : Option (List Str)} (h : isPartO d po = true) : calmF d = true := by
  unfold isPartO at h
  rw [Bool.and_eq_true] at h
  exact calm_name h.1
theorem calm_two {a b : Dat} (ha : calmF a = true) (hb : calmF b = true) : LvC 1 (.tup [a, b]) := .mk (show 2 ≤ 2000 by decide) fun y hy => by
  simp only [List.mem_cons, List.not_mem_nil, or_false] at hy
  rcases hy with rfl | rfl
  · exact ha
  · exact hb
theorem calm_three {a b c : Dat} (ha : calmF a = true) (hb : calmF b = true) (hc : calmF c = true) : LvC 1 (.tup [a, b, c]) := .mk (show 3 ≤ 2000 by decide) fun y hy => by
  simp only [List.mem_cons, List.not_mem_nil, or_false] at hy
  rcases hy with rfl | rfl | rfl
  · exact ha
  · exact hb
  · exact hc
theorem calm_change {ps : List Str} {po : Option (List Str)} {d : Dat} (h : isChange ps po d = true) : LvC 1 d := by
  rcases isChange_of h with ⟨p, rfl, h1⟩ | ⟨p, q, rfl, h1, h2⟩ | ⟨x, p, q, rfl, _, h1, h2⟩
  · exact calm_two rfl (calm_place h1)
  · exact calm_three rfl (calm_place h1) (calm_place h2)
  · exact calm_three rfl (calm_place h1) (calm_partO h2)
theorem calm_from {d : Dat} {lo hi : Int} (h : isFrom d lo hi = true) : calmF d = true := by cases d <;> first | rfl | cases h
theorem calm_upd {ps : List Str} {po : Option (List Str)} {d : Dat} (h : isUpd ps po d = true) : LvC 3 d := by
  obtain ⟨x, b, c, e, rfl, _, h2, h3, h4⟩ := isUpd_of h
  refine .mk (show 4 ≤ 2000 by decide) fun y hy => ?_
  simp only [List.mem_cons, List.not_mem_nil, or_false] at hy
  rcases hy with rfl | rfl | rfl | rfl
  · exact .fl rfl _
  · exact .fl (calm_from h2) _
  · refine .fl ?_ _
    rw [Bool.or_eq_true] at h3
    rcases h3 with h3 | h3
    · cases y <;> first | rfl | cases h3
    · exact calm_from h3
  · unfold areChanges at h4
    split at h4
    · rename_i xs
      rw [Bool.and_eq_true, Bool.and_eq_true, decide_eq_true_eq, decide_eq_true_eq] at h4
      exact .mk (by omega) fun z hz => calm_change (List.all_eq_true.mp h4.2 z hz)
    · cases h4
theorem calm_rows {ps : List Str} {po : Option (List Str)} {d : Dat} (h : areRows d ps po = true) (hl : ∀ xs, d = .tup xs → xs.length ≤ 2000) : LvC 2 d := by
  unfold areRows at h
  split at h
  · rename_i xs
    rw [Bool.and_eq_true] at h
    refine .mk (hl xs rfl) fun z hz => ?_
    obtain ⟨a, b, rfl, h1, h2, h3⟩ := rowOk_of (List.all_eq_true.mp h.1 z hz)
    exact calm_two (calm_name h1) (calm_partO h3)
  · cases h
theorem calm_ways {ps rs : List Str} {d : Dat} (h : areWays d ps rs = true) : LvC 2 d := by
  unfold areWays at h
  split at h
  · rename_i xs
    rw [Bool.and_eq_true, Bool.and_eq_true] at h
    obtain ⟨h0, _, _, hl⟩ := areNames_all h.1.2
    rw [List.length_map] at hl
    refine .mk (by omega) fun z hz => ?_
    obtain ⟨a, b, rfl⟩ := pair_of (List.all_eq_true.mp h.1.1 z hz)
    have w : (memS a ps && isNameD b && memS b rs) = true := List.all_eq_true.mp h.2 _ hz
    rw [Bool.and_eq_true, Bool.and_eq_true] at w
    exact calm_two (calm_name (List.all_eq_true.mp h0 a (List.mem_map.mpr ⟨_, hz, rfl⟩))) (calm_name w.1.2)
  · cases h
theorem rows_few {ps : List Str} {po : Option (List Str)} {xs : List Dat} (h : areRows (.tup xs) ps po = true) : xs.length ≤ ps.length := by
  have h : (xs.all (rowOk ps po) && decide ((textsOf (xs.map firstOf)).Nodup)) = true := h
  rw [Bool.and_eq_true, decide_eq_true_eq] at h
  have nm : ∀ x ∈ xs, isNameD (firstOf x) = true := fun x hx => by
    obtain ⟨a, b, rfl, h1, _⟩ := rowOk_of (List.all_eq_true.mp h.1 x hx)
    exact h1
  have e := names_first nm
  have l : (textsOf (xs.map firstOf)).length = xs.length := by
    have z := congrArg List.length e
    rw [List.length_map, List.length_map] at z
    exact z.symm
  rw [← l]
  refine List.Nodup.length_le_of_subset h.2 fun x hx => ?_
  have z : Dat.str x ∈ xs.map firstOf := by
    rw [e]
    exact List.mem_map.mpr ⟨x, hx, rfl⟩
  obtain ⟨r, hr, er⟩ := List.mem_map.mp z
  obtain ⟨a, b, rfl, _, h2, _⟩ := rowOk_of (List.all_eq_true.mp h.1 r hr)
  have er : a = .str x := er
  subst er
  have h2 : (isNameS x && decide (x ∈ ps)) = true := h2
  rw [Bool.and_eq_true, decide_eq_true_eq] at h2
  exact h2.2
theorem WOk.calm {ps : List Str} {l : List (Str × Dat × Str)} {rs : List Dat} (W : WOk ps l rs) : LvC 1 (namesD ps) ∧ LvC 2 (partsD l) ∧ LvC 6 (.tup rs) := by
  have h1 := W.pl
  have h2 := W.ll
  have h3 := W.rl
  obtain ⟨ts, e1, _, nm, hr⟩ := W.rt
  refine ⟨calm_names 0 (by omega), calm_parts (by omega) W.lp, .mk (by omega) fun r hr2 => ?_⟩
  have hf : ∃ t, firstOf r = .str t := by
    have z : firstOf r ∈ rs.map firstOf := List.mem_map.mpr ⟨r, hr2, rfl⟩
    rw [e1] at z
    obtain ⟨t, _, e⟩ := List.mem_map.mp z
    exact ⟨t, e.symm⟩
  obtain ⟨t, et⟩ := hf
  obtain ⟨a, b, us, e, rfl, q1, q2, q3, q4⟩ := isRoom_of (hr r hr2).2
  have et : a = .str t := et
  subst et
  refine .mk (show 4 ≤ 2000 by decide) fun y hy => ?_
  simp only [List.mem_cons, List.not_mem_nil, or_false] at hy
  rcases hy with rfl | rfl | rfl | rfl
  · exact .fl rfl _
  · exact (calm_rows q1 fun xs e => by
      rw [e] at q1
      have := rows_few q1
      omega).le (by decide)
  · exact .mk (by omega) fun u hu => calm_upd (List.all_eq_true.mp q3 u hu)
  · exact (calm_ways q4).le (by decide)
end Aim
namespace Aim
open PySem PySem.Spec PyProof.Rows L2 RZ
open LamX (TabB)
section
variable {P : Program} {w : World} {K : PySem.W.Frag} {mg : Str → Option Value} {base : Heap} {TT : List (Addr × Str)}
def spUpdateW : DSp := fun ds n Q _ => ∃ (x : Str) (ps nm : List Str) (top many : Nat), ds = [.pot, .str x, .lst (ps.map .str), .lst (nm.map .str), .int top, .int many] ∧ isNameS x = true ∧ (0 < ps.length ∧ ps.length ≤ 1000) ∧ (0 < nm.length ∧ nm.length ≤ 1000) ∧ (∀ x ∈ ps, isNameS x = true) ∧ (∀ x ∈ nm, isNameS x = true) ∧ top ≤ 9 ∧ (1 ≤ many ∧ many ≤ 3) ∧ n < 830000 ∧ ∀ u m, isUpd ps (some nm) u = true → firstOf u = .str x → n ≤ m → m ≤ n + 20 → Q u m
theorem sc__law_update : FnScope ["_law_pot_here", "_law_name_here", "_law_places", "_law_parts", "_law_top", "_law_many", "_law_low", "_law_high", "_law_found", "_law_turn"] ["_law_pot_here", "_law_name_here", "_law_places", "_law_parts", "_law_top", "_law_many"] (defScope (top 75)) := ⟨rfl, rfl, rfl, by decide +kernel, rfl, by decide +kernel, by decide +kernel⟩
theorem ok_updateW {G : Bool} (F : Has K mg "_law_update" (top 75)) (T : Blt mg) (D__law_take : Df P w K mg base false 1 "_law_take" (LSp K TT spTake)) (D__law_of : Df P w K mg base false 2 "_law_of" (LSp K TT spOf)) (D__law_change : Df P w K mg base false 3 "_law_change" (LSp K TT spChangeW)) : Df P w K mg base G 4 "_law_update" (LSp K TT spUpdateW) := by
  refine dat_ok F (fun f fd F => F.binds (fun _ _ _ _ _ _ us hl => by obtain ⟨x0, x1, x2, x3, x4, x5, rfl⟩ := us6 hl; rfl)) sc__law_update (fun f cdv A outer s H E hr hG => ⟨_, (dss_cons (ds_set (i := 6) sc__law_update.nd rfl (Or.inl rfl) (de_call D__law_take hr (by first | decide | omega) (by first | exact hG | (intro z; cases z)) rfl passL (da_cons (de_var (pv 0)) (da_cons (de_op op_addAny od_add (de_var (pv 4)) de_int) da_nil))))
      (dss_cons (ds_set (i := 7) sc__law_update.nd rfl (Or.inl rfl) (de_call D__law_of hr (by first | decide | omega) (by first | exact hG | (intro z; cases z)) rfl passL (da_cons (de_var (pv 0)) (da_cons (de_lst (da_cons de_non (da_cons (de_var (pv 6)) (da_cons (de_op op_addAny od_add (de_var (pv 6)) (de_call D__law_take hr (by first | decide | omega) (by first | exact hG | (intro z; cases z)) rfl passL (da_cons (de_var (pv 0)) (da_cons (de_op op_sub (od_II _) (de_op op_addAny od_add (de_var (pv 4)) de_int) (de_var (pv 6))) da_nil)))) da_nil)))) da_nil))))
      (dss_cons (ds_own (ps_asg (L2.PE.imp (pe_lst da_nil) fun _ _ _ h => lf_disp h) (pg_name (i := 8) sc__law_update.nd rfl (Or.inl rfl))))
      (dss_cons (ds_forI PassesOwn.never rfl (di_rng1 (pi_range1 rfl T.n_range (da_cons (de_op op_addAny od_add de_int (de_call D__law_take hr (by first | decide | omega) (by first | exact hG | (intro z; cases z)) rfl passL (da_cons (de_var (pv 0)) (da_cons (de_var (pv 5)) da_nil)))) da_nil))) (dg_name (pg_name (i := 9) sc__law_update.nd rfl (Or.inl rfl) (Or.inl rfl))) (dss_one (ds_om od_append (ps_om (i := 8) PySem.F.slot_list_append PySem.F.type_list_append mt_append rfl (by first | exact Or.inl rfl | exact Or.inr (Or.inl rfl)) (da_cons (de_call D__law_change hr (by first | decide | omega) (by first | exact hG | (intro z; cases z)) rfl passL (da_cons (de_var (pv 0)) (da_cons (de_var (pv 2)) (da_cons (de_var (pv 3)) da_nil)))) da_nil)))))
      (dss_one (ds_melt (i := 8) (ds_ret (de_tup (da_cons (de_var (pv 1)) (da_cons (de_var (pv 6)) (da_cons (de_var (pv 7)) (da_cons (de_cb cd_tup (pe_callTy call_tupleN rfl T.n_tuple boot_tuple (da_cons (de_var (pv 8)) da_nil))) da_nil)))))))))))), fun ds n PP R h => ?_⟩) (fun ds n PP R h => ?_)
  · obtain ⟨x, ps, nm, top, many, rfl, hx, hp0, hq0, hp, hq, ht, ⟨hm1, hm3⟩, hn, k⟩ := h
    refine ⟨rfl, ?_⟩
    refine ⟨_, rfl, by omega, by omega, by omega, fun lo lo0 lo1 => ?_⟩
    refine ⟨_, rfl, by omega, by omega, by omega, fun r r0 r1 => ?_⟩
    refine ⟨sz_nat (show 3 ≤ 16777216 by decide), [.non, .int lo, .int (lo + r)], .inl rfl, by omega, show 0 < 3 by decide, show 3 ≤ 1000000 by decide, fun hi hhi => ?_⟩
    refine ⟨Nat.zero_le _, ?_⟩
    refine ⟨_, rfl, by omega, by omega, by omega, fun r2 r20 r21 => ?_⟩
    refine ⟨by omega, fun i ρ' m => ∃ (cs : List Dat) (s9 : Sl), ρ' = [.val .pot, .val (.str x), .val (.lst (ps.map .str)), .val (.lst (nm.map .str)), .val (.int top), .val (.int many), .val (.int lo), .val hi, .own cs, s9] ∧ cs.length = i ∧ (∀ c ∈ cs, isChange ps (some nm) c = true) ∧ n + 4 ≤ m ∧ m ≤ n + 4 + 3 * i, ⟨[], .no, rfl, rfl, fun c hc => by simp at hc, by omega, by omega⟩, ?_, ?_⟩
    · rintro i a ρ' m ha ⟨cs, s9, rfl, hl, hc, m1, m2⟩
      have hi2 : i < 4 := by
        have z := (List.getElem?_eq_some_iff.mp ha).1
        rw [numL_len] at z
        omega
      refine ⟨ps, nm, rfl, hp0, hq0, hp, hq, by omega, fun c m3 hcc h3 h4 => ⟨by rw [hl]; exact Nat.lt_of_lt_of_le (show i < 100 by omega) (sz_nat (show 100 ≤ 16777216 by decide)), cs ++ [c], _, rfl, by rw [List.length_append, hl]; rfl, fun d hd => ?_, by omega, by omega⟩⟩
      rcases List.mem_append.mp hd with hd | hd
      · exact hc d hd
      · rw [List.mem_singleton.mp hd]
        exact hcc
    · rintro ρ' m ⟨cs, s9, rfl, hl, hc, m1, m2⟩
      rw [numL_len] at hl m2
      refine ⟨sz_nat (show 4 ≤ 16777216 by decide), k _ _ ?_ rfl (by omega) (by omega)⟩
      show (isNameS x && isFrom (.int lo) 0 9 && (isNon hi || isFrom hi lo 9) && (decide (1 ≤ cs.length) && decide (cs.length ≤ 3) && cs.all (isChange ps (some nm)))) = true
      have a2 : isFrom (.int lo) 0 9 = true := by
        show (decide (0 ≤ lo) && decide (lo ≤ 9)) = true
        rw [decide_eq_true lo0, decide_eq_true (by omega)]
        rfl
      have a3 : (isNon hi || isFrom hi lo 9) = true := by
        simp only [List.mem_cons, List.not_mem_nil, or_false] at hhi
        rcases hhi with rfl | rfl | rfl
        · rfl
        · show (false || (decide (lo ≤ lo) && decide (lo ≤ 9))) = true
          rw [decide_eq_true (Int.le_refl lo), decide_eq_true (by omega)]
          rfl
        · show (false || (decide (lo ≤ lo + r) && decide (lo + r ≤ 9))) = true
          rw [decide_eq_true (by omega), decide_eq_true (by omega)]
          rfl
      rw [hx, a2, a3, List.all_eq_true.mpr hc, decide_eq_true (by omega), decide_eq_true (by omega)]
      rfl
  · obtain ⟨x, ps, nm, top, many, rfl, _⟩ := h
    rfl
end
end Aim
namespace Aim
open PySem PySem.Spec PyProof.Rows L2 RZ
open LamX (TabB)
section
variable {P : Program} {w : World} {K : PySem.W.Frag} {mg : Str → Option Value} {base : Heap} {TT : List (Addr × Str)}
theorem calm_room {ps : List Str} {l : List (Str × Dat × Str)} {ts : List Str} {r : Dat} (hp : ps.length ≤ 2000) (h : isRoom ps l ts r = true) (hf : ∃ t, firstOf r = .str t) : LvC 5 r := by
  obtain ⟨t, et⟩ := hf
  obtain ⟨a, b, us, e, rfl, q1, q2, q3, q4⟩ := isRoom_of h
  have et : a = .str t := et
  subst et
  refine .mk (show 4 ≤ 2000 by decide) fun y hy => ?_
  simp only [List.mem_cons, List.not_mem_nil, or_false] at hy
  rcases hy with rfl | rfl | rfl | rfl
  · exact .fl rfl _
  · exact (calm_rows q1 fun xs e => by
      rw [e] at q1
      have := rows_few q1
      omega).le (by decide)
  · exact .mk (by omega) fun u hu => calm_upd (List.all_eq_true.mp q3 u hu)
  · exact (calm_ways q4).le (by decide)
theorem cmp_list {k : Nat} {xs : List Dat} (hk : k ≤ 50) (h : ∀ x ∈ xs, LvC k x) : cmpOk (.lst xs) := ⟨plains_of fun x hx => (h x hx).plain, by
  have z := depthAll_le (j := k + 1) fun x hx => (h x hx).depth
  show PyData.depth (.list (pys xs)) ≤ 60
  simp only [PyData.depth]
  omega⟩
def spWorld : DSp := fun ds n Q _ => ∃ a b c d e f : Nat, ds = [.pot, .tup [.int a, .int b, .int c, .int d, .int e, .int f]] ∧ (1 ≤ a ∧ a ≤ 4) ∧ (1 ≤ b ∧ b ≤ 6) ∧ (1 ≤ c ∧ c ≤ 4) ∧ d ≤ 3 ∧ e ≤ 9 ∧ (1 ≤ f ∧ f ≤ 3) ∧ n < 800000 ∧ ∀ ps l rs m, WOk ps l rs → n ≤ m → m ≤ n + 2000 → (1 ≤ d → rs.flatMap roomUpd ≠ []) → Q (.tup [namesD ps, partsD l, .tup rs]) m
theorem sc__law_world : FnScope ["_law_pot_here", "_law_sizes", "_law_places", "_law_names_here", "_law_deeds_here", "_law_parts", "_law_name_here", "_law_doers", "_law_titles", "_law_title", "_law_rooms", "_law_taken", "_law_updates", "_law_least", "_law_turn", "_law_ways", "_law_shown", "_law_row"] ["_law_pot_here", "_law_sizes"] (defScope (top 76)) := ⟨rfl, rfl, rfl, by decide +kernel, rfl, by decide +kernel, by decide +kernel⟩
theorem ok_world {G : Bool} (F : Has K mg "_law_world" (top 76)) (T : Blt mg) (D__law_take : Df P w K mg base false 1 "_law_take" (LSp K TT spTake)) (D__law_of : Df P w K mg base false 2 "_law_of" (LSp K TT spOf)) (D__law_names : Df P w K mg base false 5 "_law_names" (LSpF K TT spNamesW)) (D__law_update : Df P w K mg base false 4 "_law_update" (LSp K TT spUpdateW)) (D__law_rows : Df P w K mg base false 3 "_law_rows" (LSp K TT spRowsW)) : Df P w K mg base G 6 "_law_world" (LSp K TT spWorld) := by
  refine dat_ok F (fun f fd F => F.binds (fun _ _ _ _ _ _ us hl => by obtain ⟨x0, x1, rfl⟩ := us2 hl; rfl)) sc__law_world (fun f cdv A outer s H E hr hG => ⟨_, (dss_cons (ds_set (i := 2) sc__law_world.nd rfl (Or.inl rfl) (de_fr (lf_call D__law_names hr (by first | decide | omega) (by first | exact hG | (intro z; cases z)) rfl passL (da_cons (de_var (pv 0)) (da_cons (de_op op_addAny od_add de_int (de_call D__law_take hr (by first | decide | omega) (by first | exact hG | (intro z; cases z)) rfl passL (da_cons (de_var (pv 0)) (da_cons (de_ix ix_seq od_ix (de_var (pv 1)) de_int (fun _ _ => rfl)) da_nil)))) (da_cons (de_lst da_nil) da_nil))))))
      (dss_cons (ds_set (i := 3) sc__law_world.nd rfl (Or.inl rfl) (de_fr (lf_call D__law_names hr (by first | decide | omega) (by first | exact hG | (intro z; cases z)) rfl passL (da_cons (de_var (pv 0)) (da_cons (de_op op_addAny od_add de_int (de_call D__law_take hr (by first | decide | omega) (by first | exact hG | (intro z; cases z)) rfl passL (da_cons (de_var (pv 0)) (da_cons (de_ix ix_seq od_ix (de_var (pv 1)) de_int (fun _ _ => rfl)) da_nil)))) (da_cons (de_lst da_nil) da_nil))))))
      (dss_cons (ds_set (i := 4) sc__law_world.nd rfl (Or.inl rfl) (de_fr (lf_call D__law_names hr (by first | decide | omega) (by first | exact hG | (intro z; cases z)) rfl passL (da_cons (de_var (pv 0)) (da_cons (de_op op_addAny od_add de_int (de_call D__law_take hr (by first | decide | omega) (by first | exact hG | (intro z; cases z)) rfl passL (da_cons (de_var (pv 0)) (da_cons de_int da_nil)))) (da_cons (de_lst da_nil) da_nil))))))
      (dss_cons (ds_own (ps_asg (L2.PE.imp (pe_lst da_nil) fun _ _ _ h => lf_disp h) (pg_name (i := 5) sc__law_world.nd rfl (Or.inl rfl))))
      (dss_cons (ds_forI PassesOwn.never rfl (di_list (de_var (pv 3))) (dg_name (pg_name (i := 6) sc__law_world.nd rfl (Or.inl rfl) (Or.inl rfl))) (dss_one (ds_om od_append (ps_om (i := 5) PySem.F.slot_list_append PySem.F.type_list_append mt_append rfl (by first | exact Or.inl rfl | exact Or.inr (Or.inl rfl)) (da_cons (de_tup (da_cons (de_var (pv 6)) (da_cons (de_call D__law_of hr (by first | decide | omega) (by first | exact hG | (intro z; cases z)) rfl passL (da_cons (de_var (pv 0)) (da_cons (de_lst (da_cons de_str (da_cons de_str da_nil))) da_nil))) (da_cons (de_call D__law_of hr (by first | decide | omega) (by first | exact hG | (intro z; cases z)) rfl passL (da_cons (de_var (pv 0)) (da_cons (de_op op_addAny od_add (de_var (pv 4)) (de_lst (da_cons de_str da_nil))) da_nil))) da_nil)))) da_nil)))))
      (dss_cons (ds_melt (i := 5) (ds_setF (st_lcI (own := [("_law_row", 17)]) rfl sc__law_world.nd (i := 7) rfl rfl rfl (di_list (de_var (pv 5))) (blkOk_by rfl) (fun _ _ _ _ _ => (dg_name (pg_name (i := 17) sc__law_world.nd rfl (Or.inl rfl) (Or.inr rfl)))) (fun _ _ _ _ _ => (dts_one (dt_cmp (op_neDD hr.units) od_ne (de_ix ix_seq od_ix (de_var (pv 17)) de_int (fun _ _ => rfl)) de_str (nomark _)))) (fun _ _ _ _ _ => (de_ix ix_seq od_ix (de_var (pv 17)) de_int (fun _ _ => rfl))))))
      (dss_cons (ds_set (i := 8) sc__law_world.nd rfl (Or.inl rfl) (de_fr (lf_call D__law_names hr (by first | decide | omega) (by first | exact hG | (intro z; cases z)) rfl passL (da_cons (de_var (pv 0)) (da_cons (de_op op_addAny od_add de_int (de_call D__law_take hr (by first | decide | omega) (by first | exact hG | (intro z; cases z)) rfl passL (da_cons (de_var (pv 0)) (da_cons (de_ix ix_seq od_ix (de_var (pv 1)) de_int (fun _ _ => rfl)) da_nil)))) (da_cons (de_lst da_nil) da_nil))))))
      (dss_cons (ds_names2 (ps_par (i := 10) (j := 11) rfl sc__law_world.nd rfl rfl (by decide) rfl rfl (das_own (L2.PE.imp (pe_lst da_nil) fun _ _ _ h => lf_disp h) (das_own (L2.PE.imp (pe_callTy call_list_of rfl T.n_list boot_list (pa_cons (de_var (pv 3)) pa_nil)) fun _ _ _ h => lf_list h) das_nil)) (by rfl)))
      (dss_cons (ds_forI PassesOwn.never rfl (di_list (de_var (pv 8))) (dg_name (pg_name (i := 9) sc__law_world.nd rfl (Or.inl rfl) (Or.inl rfl))) (dss_cons (ds_own (ps_asg (L2.PE.imp (pe_lst da_nil) fun _ _ _ h => lf_disp h) (pg_name (i := 12) sc__law_world.nd rfl (Or.inl rfl))))
      (dss_cut (ds_set (i := 13) sc__law_world.nd rfl (Or.inl rfl) (de_cb cd_int (pe_callTy call_intA rfl T.n_int boot_int (da_cons (de_and (de_bor (i := 10) (de_cmp (op_eqDD hr.units) od_eq (de_var (pv 10)) (de_lst da_nil) (nomark _))) (de_one (de_cmp op_gt (od_IB _) (de_ix ix_seq od_ix (de_var (pv 1)) de_int (fun _ _ => rfl)) de_int (nomark _)))) da_nil))))
      (dss_cons (ds_forI PassesOwn.never rfl (di_rng1 (pi_range1 rfl T.n_range (da_cons (de_op op_addAny od_add (de_var (pv 13)) (de_call D__law_take hr (by first | decide | omega) (by first | exact hG | (intro z; cases z)) rfl passL (da_cons (de_var (pv 0)) (da_cons (de_op op_sub (od_II _) (de_op op_addAny od_add (de_ix ix_seq od_ix (de_var (pv 1)) de_int (fun _ _ => rfl)) de_int) (de_var (pv 13))) da_nil)))) da_nil))) (dg_name (pg_name (i := 14) sc__law_world.nd rfl (Or.inl rfl) (Or.inl rfl))) (dss_cons (ds_set (i := 6) sc__law_world.nd rfl (Or.inl rfl) (de_bor (i := 11) (de_ix ix_seq od_ix (de_fr (lf_call D__law_names hr (by first | decide | omega) (by first | exact hG | (intro z; cases z)) rfl passL (da_cons (de_var (pv 0)) (da_cons de_int (da_cons (de_var (pv 11)) da_nil))))) de_int (fun _ _ => rfl))))
      (dss_cons (ds_om od_append (ps_om (i := 11) PySem.F.slot_list_append PySem.F.type_list_append mt_append rfl (by first | exact Or.inl rfl | exact Or.inr (Or.inl rfl)) (da_cons (de_var (pv 6)) da_nil)))
      (dss_cons (ds_set (i := 17) sc__law_world.nd rfl (Or.inl rfl) (de_call D__law_update hr (by first | decide | omega) (by first | exact hG | (intro z; cases z)) rfl passL (da_cons (de_var (pv 0)) (da_cons (de_var (pv 6)) (da_cons (de_var (pv 2)) (da_cons (de_var (pv 3)) (da_cons (de_ix ix_seq od_ix (de_var (pv 1)) de_int (fun _ _ => rfl)) (da_cons (de_ix ix_seq od_ix (de_var (pv 1)) de_int (fun _ _ => rfl)) da_nil))))))))
      (dss_one (ds_om od_append (ps_om (i := 12) PySem.F.slot_list_append PySem.F.type_list_append mt_append rfl (by first | exact Or.inl rfl | exact Or.inr (Or.inl rfl)) (da_cons (de_var (pv 17)) da_nil))))))))
      (dss_cons (ds_own (ps_asg (L2.PE.imp (pe_lst da_nil) fun _ _ _ h => lf_disp h) (pg_name (i := 15) sc__law_world.nd rfl (Or.inl rfl))))
      (dss_cons (ds_forI PassesOwn.never rfl (di_list (de_var (pv 7))) (dg_name (pg_name (i := 6) sc__law_world.nd rfl (Or.inl rfl) (Or.inl rfl))) (dss_one (ds_if (dt_cmp (op_eqDD hr.units) od_eq (de_call D__law_take hr (by first | decide | omega) (by first | exact hG | (intro z; cases z)) rfl passL (da_cons (de_var (pv 0)) (da_cons de_int da_nil))) de_int (nomark _)) (dss_one (ds_om od_append (ps_om (i := 15) PySem.F.slot_list_append PySem.F.type_list_append mt_append rfl (by first | exact Or.inl rfl | exact Or.inr (Or.inl rfl)) (da_cons (de_tup (da_cons (de_var (pv 6)) (da_cons (de_call D__law_of hr (by first | decide | omega) (by first | exact hG | (intro z; cases z)) rfl passL (da_cons (de_var (pv 0)) (da_cons (de_var (pv 8)) da_nil))) da_nil))) da_nil)))) dss_nil)))
      (dss_cons (ds_set (i := 16) sc__law_world.nd rfl (Or.inl rfl) (de_call D__law_rows hr (by first | decide | omega) (by first | exact hG | (intro z; cases z)) rfl passL (da_cons (de_var (pv 0)) (da_cons (de_var (pv 2)) (da_cons (de_var (pv 3)) da_nil)))))
      (dss_one (ds_melt (i := 15) (ds_melt (i := 12) (ds_om od_append (ps_om (i := 10) PySem.F.slot_list_append PySem.F.type_list_append mt_append rfl (by first | exact Or.inl rfl | exact Or.inr (Or.inl rfl)) (da_cons (de_tup (da_cons (de_var (pv 9)) (da_cons (de_var (pv 16)) (da_cons (de_cb cd_tup (pe_callTy call_tupleN rfl T.n_tuple boot_tuple (da_cons (de_var (pv 12)) da_nil))) (da_cons (de_cb cd_tup (pe_callTy call_tupleN rfl T.n_tuple boot_tuple (da_cons (de_var (pv 15)) da_nil))) da_nil))))) da_nil)))))))))))))
      (dss_one (ds_melt (i := 10) (ds_ret (de_tup (da_cons (de_cb cd_tup (pe_callTy call_tupleN rfl T.n_tuple boot_tuple (da_cons (de_var (pv 2)) da_nil))) (da_cons (de_cb cd_tup (pe_callTy call_tupleN rfl T.n_tuple boot_tuple (da_cons (de_var (pv 5)) da_nil))) (da_cons (de_cb cd_tup (pe_callTy call_tupleN rfl T.n_tuple boot_tuple (da_cons (de_var (pv 10)) da_nil))) da_nil)))))))))))))))), fun ds n PP R h => ?_⟩) (fun ds n PP R h => ?_)
  · obtain ⟨a, b, c, d, e, f, rfl, ⟨a1, a2⟩, ⟨b1, b2⟩, ⟨c1, c2⟩, d2, e2, ⟨f1, f2⟩, hn, k⟩ := h
    refine ⟨rfl, ?_⟩
    refine ⟨_, rfl, by omega, by omega, by omega, fun ra ra0 ra1 => ?_⟩
    obtain ⟨na, rfl⟩ : ∃ k : Nat, ra = (k : Int) := ⟨ra.toNat, by omega⟩
    refine ⟨Nat.zero_le _, 1 + na, [], by push_cast; rfl, by omega, by decide, by omega, fun ps m m1 m2 lps ndp hps => ?_⟩
    obtain ⟨pl1, pl2, mq1, mq2⟩ : 1 ≤ ps.length ∧ ps.length ≤ 4 ∧ n ≤ m ∧ m ≤ n + 57 := by omega
    clear ra0 ra1 lps m1 m2 a1 a2
    refine ⟨_, rfl, by omega, by omega, by omega, fun rb rb0 rb1 => ?_⟩
    obtain ⟨nb, rfl⟩ : ∃ k : Nat, rb = (k : Int) := ⟨rb.toNat, by omega⟩
    refine ⟨Nat.zero_le _, 1 + nb, [], by push_cast; rfl, by omega, by decide, by omega, fun nm m' m3 m4 lnm ndn hnm => ?_⟩
    obtain ⟨nl1, nl2, mr1, mr2⟩ : 1 ≤ nm.length ∧ nm.length ≤ 6 ∧ n ≤ m' ∧ m' ≤ n + 142 := by omega
    have lnm2 := lnm
    clear rb0 rb1 m3 m4 b1 b2 mq1 mq2
    refine ⟨4, rfl, by omega, by decide, by decide, fun rd rd0 rd1 => ?_⟩
    obtain ⟨nd, rfl⟩ : ∃ k : Nat, rd = (k : Int) := ⟨rd.toNat, by omega⟩
    refine ⟨Nat.zero_le _, 1 + nd, [], by push_cast; rfl, by omega, by decide, by omega, fun dd m'' m5 m6 ldd ndd hdd => ?_⟩
    obtain ⟨dl1, dl2, ms1, ms2⟩ : 1 ≤ dd.length ∧ dd.length ≤ 4 ∧ n ≤ m'' ∧ m'' ≤ n + 199 := by omega
    clear rd0 rd1 ldd m5 m6 mr1 mr2
    refine ⟨Nat.zero_le _, ?_⟩
    let SZ : Dat := .tup [.int a, .int b, .int c, .int d, .int e, .int f]
    let row : Str × Dat × Str → Dat := fun p => .tup [.str p.1, p.2.1, .str p.2.2]
    have sz : sizeLine = 16777216 := by decide +kernel
    refine ⟨fun i ρ' mm => ∃ (l : List (Str × Dat × Str)) (s6 : Sl), ρ' = [.val .pot, .val SZ, .val (.lst (ps.map .str)), .val (.lst (nm.map .str)), .val (.lst (dd.map .str)), .own (l.map row), s6, .no, .no, .no, .no, .no, .no, .no, .no, .no, .no, .no] ∧ namesP l = nm.take i ∧ (∀ p ∈ l, PartW p) ∧ m'' ≤ mm ∧ mm ≤ m'' + 2 * i, ⟨[], .no, rfl, by simp [namesP], fun p hp => by simp at hp, by omega, by omega⟩, ?_, ?_⟩
    · rintro i a' ρ' mm ha ⟨l, s6, rfl, hl, hp, h1, h2⟩
      rw [List.getElem?_map] at ha
      obtain ⟨x, hx, rfl⟩ := Option.map_eq_some_iff.mp ha
      have hi : i < nm.length := (List.getElem?_eq_some_iff.mp hx).1
      have ll : l.length ≤ 7 := by
        have z := congrArg List.length hl
        unfold namesP at z
        rw [List.length_map, List.length_take] at z
        omega
      refine ⟨sz_nat (by decide), [.str "up", .str "down"], .inl rfl, by omega, by decide, by decide, fun v hv => ?_⟩
      refine ⟨sz_nat (by decide), by rw [List.length_map]; show _ + 1 ≤ _; omega, dd.map .str ++ [.str ""], .inl rfl, by omega, by rw [List.length_append]; exact Nat.succ_pos _, by rw [List.length_append, List.length_map]; show _ + 1 ≤ _; omega, fun u hu => ?_⟩
      have hv2 : isAct v = true := by
        simp only [List.mem_cons, List.not_mem_nil, or_false] at hv
        rcases hv with rfl | rfl <;> rfl
      have hu2 : ∃ z : Str, u = .str z ∧ (isNameS z = true ∨ z = "") := by
        rcases List.mem_append.mp hu with hu | hu
        · obtain ⟨z, hz, rfl⟩ := List.mem_map.mp hu
          exact ⟨z, rfl, .inl (hdd z hz).1⟩
        · rw [List.mem_singleton.mp hu]
          exact ⟨"", rfl, .inr rfl⟩
      obtain ⟨z, rfl, hz⟩ := hu2
      refine ⟨sz_nat (show 3 ≤ 16777216 by decide), by rw [List.length_map]; omega, l ++ [(x, v, z)], _, by rw [List.map_append]; rfl, ?_, fun p hp' => ?_, by omega, by omega⟩
      · unfold namesP at hl ⊢
        rw [List.map_append, hl, List.take_add_one, hx]
        rfl
      · rcases List.mem_append.mp hp' with hp' | hp'
        · exact hp p hp'
        · rw [List.mem_singleton.mp hp']
          exact ⟨hv2, hz⟩
    rintro ρ' mm ⟨l, s6, rfl, hl, hp, h1, h2⟩
    rw [List.length_map] at h2
    rw [List.length_map, List.take_length] at hl
    have ll : l.length = nm.length := by
      have z := congrArg List.length hl
      unfold namesP at z
      rw [List.length_map] at z
      exact z
    obtain ⟨mt1, mt2⟩ : n ≤ mm ∧ mm ≤ n + 211 := by omega
    clear lnm lnm2 h1 h2 ms1 ms2
    have dol : (doersP l).length ≤ l.length := by
      unfold doersP
      rw [List.length_map]
      exact List.length_filter_le _ _
    have dom : ∀ x ∈ doersP l, x ∈ nm := fun x hx => by
      unfold doersP at hx
      obtain ⟨p, hp2, rfl⟩ := List.mem_map.mp hx
      rw [← hl]
      exact List.mem_map.mpr ⟨p, (List.mem_filter.mp hp2).1, rfl⟩
    have don : (doersP l).Nodup := by
      have z : (doersP l).Sublist (namesP l) := by
        unfold doersP namesP
        exact List.Sublist.map _ List.filter_sublist
      exact z.nodup (by rw [hl]; exact ndn)
    refine compI_pure doerOf (fun p hp2 Q Z q z => ?_) ?_
    · obtain ⟨x, _, rfl⟩ := List.mem_map.mp hp2
      refine ⟨⟨cmp_fl rfl, cmp_fl rfl⟩, ?_⟩
      rw [eqD_str]
      have q1 : (if decide (x.2.2 ≠ ("" : Str)) = true then some (Dat.str x.1) else none) = some (.str x.1) → Q (.str x.1) mm := q (.str x.1)
      replace z : (if decide (x.2.2 ≠ ("" : Str)) = true then some (Dat.str x.1) else none) = none → Z mm := z
      by_cases hz : x.2.2 = ""
      · rw [hz]
        rw [hz] at z
        exact z rfl
      · rw [beq_eq_false_iff_ne.mpr hz]
        rw [if_pos (decide_eq_true hz)] at q1
        exact q1 rfl
    rw [doers_map]
    refine ⟨_, rfl, by omega, by omega, by omega, fun rt rt0 rt1 => ?_⟩
    obtain ⟨nt, rfl⟩ : ∃ k : Nat, rt = (k : Int) := ⟨rt.toNat, by omega⟩
    refine ⟨Nat.zero_le _, 1 + nt, [], by push_cast; rfl, by omega, by decide, by omega, fun ts m4' m7 m8 lts ndt hts => ?_⟩
    obtain ⟨tl1, tl2, mu1, mu2⟩ : 1 ≤ ts.length ∧ ts.length ≤ 4 ∧ n ≤ m4' ∧ m4' ≤ n + 268 := by omega
    clear rt0 rt1 lts m7 m8 c1 c2 mt1 mt2
    refine ⟨Nat.zero_le _, rfl, by decide, ?_⟩
    have ps0 : 0 < ps.length ∧ ps.length ≤ 1000 := ⟨by omega, by omega⟩
    have nm0 : 0 < nm.length ∧ nm.length ≤ 1000 := ⟨by omega, by omega⟩
    have psm : ∀ x ∈ ps, isNameS x = true := fun x hx => (hps x hx).1
    have nmm : ∀ x ∈ nm, isNameS x = true := fun x hx => (hnm x hx).1
    refine ⟨fun i ρ' m5' => ∃ (us : List Str) (rs : List Dat) (s6 s9 s12 s13 s14 s15 s16 s17 : Sl), ρ' = [.val .pot, .val SZ, .val (.lst (ps.map .str)), .val (.lst (nm.map .str)), .val (.lst (dd.map .str)), .val (.lst (l.map row)), s6, .val (.lst ((doersP l).map .str)), .val (.lst (ts.map .str)), s9, .own rs, .own ((nm ++ us).map .str), s12, s13, s14, s15, s16, s17] ∧ rs.length = i ∧ rs.map firstOf = (ts.take i).map Dat.str ∧ (∀ r ∈ rs, isTup r 4 = true ∧ isRoom ps l ts r = true) ∧ rs.flatMap roomUpd = us.map Dat.str ∧ us.length ≤ 3 * i ∧ us.Nodup ∧ (∀ x ∈ us, isNameS x = true ∧ x ∉ nm) ∧ (1 ≤ i → 1 ≤ d → 1 ≤ us.length) ∧ m4' ≤ m5' ∧ m5' ≤ m4' + 200 * i, ⟨[], [], _, .no, .no, .no, .no, .no, .no, .no, by rw [List.append_nil]; rfl, rfl, by simp, fun r hr => by simp at hr, by simp, by simp, List.nodup_nil, fun x hx => by simp at hx, by omega, by omega, by omega⟩, ?_, ?_⟩
    · rintro i a' ρ' m5' ha ⟨us, rs, s6, s9, s12, s13, s14, s15, s16, s17, rfl, hrl, hrf, hrr, hru, hul, und, hum, hus, h3, h4⟩
      rw [List.getElem?_map] at ha
      obtain ⟨t, ht, rfl⟩ := Option.map_eq_some_iff.mp ha
      have hi : i < ts.length := (List.getElem?_eq_some_iff.mp ht).1
      have calmR : ∀ r ∈ rs, LvC 5 r := fun r hr => calm_room (by omega) (hrr r hr).2 (by
        have z : firstOf r ∈ rs.map firstOf := List.mem_map.mpr ⟨r, hr, rfl⟩
        rw [hrf] at z
        obtain ⟨t, _, e⟩ := List.mem_map.mp z
        exact ⟨t, e.symm⟩)
      refine ⟨Nat.zero_le _, ?_⟩
      refine ⟨fun ρ' m6 => ∃ ls : Nat, ls ≤ 1 ∧ (ls = 1 → 0 < d) ∧ (rs = [] → 1 ≤ d → ls = 1) ∧ ρ' = [.val .pot, .val SZ, .val (.lst (ps.map .str)), .val (.lst (nm.map .str)), .val (.lst (dd.map .str)), .val (.lst (l.map row)), s6, .val (.lst ((doersP l).map .str)), .val (.lst (ts.map .str)), .val (.str t), .own rs, .own ((nm ++ us).map .str), .own [], .val (.int ls), s14, s15, s16, s17] ∧ m6 = m5', ?_, ?_⟩
      · refine ⟨Nat.zero_le _, ⟨cmp_list (k := 5) (by decide) calmR, cmp_names []⟩, ⟨rfl, ?_⟩⟩
        refine ite2 (fun c => ?_) (fun c => ⟨0, by omega, by omega, fun z _ => (by subst z; exact (c rfl).elim), rfl, rfl⟩)
        by_cases hd0 : 0 < d
        · refine ⟨1, by omega, fun _ => hd0, fun _ _ => rfl, ?_, rfl⟩
          rw [decide_eq_true (show (d : Int) > 0 by omega)]
          rfl
        · refine ⟨0, by omega, by omega, fun _ z => absurd z hd0, ?_, rfl⟩
          rw [decide_eq_false (show ¬ (d : Int) > 0 by omega)]
          rfl
      · rintro ρ' m6 ⟨ls, ls1, lsd, lse, rfl, rfl⟩
        refine ⟨_, rfl, by omega, by omega, by omega, fun q q0 q1 => ?_⟩
        refine ⟨by omega, fun j ρ' m7 => ∃ (us2 : List Str) (ups : List Dat) (s6 s14 s17 : Sl), ρ' = [.val .pot, .val SZ, .val (.lst (ps.map .str)), .val (.lst (nm.map .str)), .val (.lst (dd.map .str)), .val (.lst (l.map row)), s6, .val (.lst ((doersP l).map .str)), .val (.lst (ts.map .str)), .val (.str t), .own rs, .own ((nm ++ us2).map .str), .own ups, .val (.int ls), s14, s15, s16, s17] ∧ ups.length = j ∧ j ≤ d ∧ (∀ u ∈ ups, isUpd ps (some nm) u = true) ∧ rs.flatMap roomUpd ++ ups.map firstOf = us2.map Dat.str ∧ us2.length ≤ 3 * i + j ∧ us2.Nodup ∧ (∀ x ∈ us2, isNameS x = true ∧ x ∉ nm) ∧ m6 + 1 ≤ m7 ∧ m7 ≤ m6 + 1 + 40 * j, ⟨us, [], _, _, _, rfl, rfl, Nat.zero_le _, fun u hu => by simp at hu, by simpa using hru, by omega, und, hum, by omega, by omega⟩, ?_, ?_⟩
        · rintro j aj ρ' m7 haj ⟨us2, ups, s6, s14, s17, rfl, hupl, hjd, hup, hue, hu2l, und2, hum2, h5, h6⟩
          have hj : j < d := by
            have z := (List.getElem?_eq_some_iff.mp haj).1
            rw [numL_len] at z
            omega
          refine ⟨1, nm ++ us2, rfl, by decide, by rw [List.length_append]; omega, by omega, fun xs m8' h7 h8 lxs _ hxs => ?_⟩
          obtain ⟨y, rfl⟩ : ∃ y, xs = [y] := by
            match xs, lxs with
            | [y], _ => exact ⟨y, rfl⟩
          obtain ⟨hy, hyn⟩ := hxs y (by simp)
          rw [List.mem_append, not_or] at hyn
          refine ⟨rfl, ?_⟩
          refine ⟨by rw [List.length_map, List.length_append]; omega, ?_⟩
          refine ⟨y, ps, nm, e, f, rfl, hy, ps0, nm0, psm, nmm, e2, ⟨f1, f2⟩, by omega, fun u m9 hu hfu h9 h10 => ?_⟩
          refine ⟨by omega, us2 ++ [y], ups ++ [u], _, _, _, by rw [show (nm ++ (us2 ++ [y])).map Dat.str = (nm ++ us2).map Dat.str ++ [.str y] by rw [← List.append_assoc, List.map_append]; rfl]; rfl, by rw [List.length_append, hupl]; rfl, by omega, fun v hv => ?_, ?_, by rw [List.length_append, List.length_singleton]; omega, ?_, fun v hv => ?_, by omega, by omega⟩
          · rcases List.mem_append.mp hv with hv | hv
            · exact hup v hv
            · rw [List.mem_singleton.mp hv]
              exact hu
          · rw [List.map_append, ← List.append_assoc, hue, List.map_append]
            show _ ++ [firstOf u] = _
            rw [hfu]
            rfl
          · rw [List.nodup_append]
            exact ⟨und2, by simp, fun a ha b hb e => hyn.2 (by rw [← List.mem_singleton.mp hb, ← e]; exact ha)⟩
          · rcases List.mem_append.mp hv with hv | hv
            · exact hum2 v hv
            · rw [List.mem_singleton.mp hv]
              exact ⟨hy, hyn.1⟩
        · rintro ρ' m7 ⟨us2, ups, s6, s14, s17, rfl, hupl, hjd, hup, hue, hu2l, und2, hum2, h5, h6⟩
          rw [numL_len] at hupl hjd hu2l h6
          refine ⟨Nat.zero_le _, ?_⟩
          refine ⟨fun j ρ' m8' => ∃ (ws : List (Str × Str)) (s6 : Sl), ρ' = [.val .pot, .val SZ, .val (.lst (ps.map .str)), .val (.lst (nm.map .str)), .val (.lst (dd.map .str)), .val (.lst (l.map row)), s6, .val (.lst ((doersP l).map .str)), .val (.lst (ts.map .str)), .val (.str t), .own rs, .own ((nm ++ us2).map .str), .own ups, .val (.int ls), s14, .own (ws.map fun p => .tup [.str p.1, .str p.2]), s16, s17] ∧ (ws.map (·.1)).Sublist ((doersP l).take j) ∧ (∀ p ∈ ws, p.2 ∈ ts) ∧ m7 ≤ m8' ∧ m8' ≤ m7 + 2 * j, ⟨[], _, rfl, by simp, fun p hp => by simp at hp, by omega, by omega⟩, ?_, ?_⟩
          · rintro j aj ρ' m8' haj ⟨ws, s6, rfl, hsub, hwt, h7, h8⟩
            rw [List.getElem?_map] at haj
            obtain ⟨x, hx, rfl⟩ := Option.map_eq_some_iff.mp haj
            have hj : j < (doersP l).length := (List.getElem?_eq_some_iff.mp hx).1
            have hwl : ws.length ≤ j := by
              have z := hsub.length_le
              rw [List.length_map, List.length_take] at z
              omega
            have tk : (doersP l).take (j + 1) = (doersP l).take j ++ [x] := by
              rw [List.take_add_one, hx]
              rfl
            refine ⟨2, rfl, by omega, by decide, by decide, fun r r0 r1 => ⟨⟨cmp_fl rfl, cmp_fl rfl⟩, ?_⟩⟩
            refine ite2 (fun c => ?_) (fun c => ⟨ws, _, rfl, by rw [tk]; exact hsub.trans (List.sublist_append_left _ _), hwt, by omega, by omega⟩)
            refine ⟨ts.map .str, .inl rfl, by omega, by rw [List.length_map]; omega, by rw [List.length_map]; omega, fun u hu => ?_⟩
            obtain ⟨q, hq2, rfl⟩ := List.mem_map.mp hu
            refine ⟨sz_nat (show 2 ≤ 16777216 by decide), by rw [List.length_map]; omega, ws ++ [(x, q)], _, by rw [show (ws ++ [(x, q)]).map (fun p => Dat.tup [.str p.1, .str p.2]) = ws.map (fun p => Dat.tup [.str p.1, .str p.2]) ++ [.tup [.str x, .str q]] by rw [List.map_append]; rfl]; rfl, ?_, fun p hp => ?_, by omega, by omega⟩
            · rw [List.map_append, tk]
              exact hsub.append (List.Sublist.refl _)
            · rcases List.mem_append.mp hp with hp | hp
              · exact hwt p hp
              · rw [List.mem_singleton.mp hp]
                exact hq2
          · rintro ρ' m8' ⟨ws, s6, rfl, hsub, hwt, h7, h8⟩
            rw [List.length_map, List.take_length] at hsub
            rw [List.length_map] at h8
            refine ⟨ps, nm, rfl, ⟨by omega, ndp⟩, nm0, psm, nmm, by omega, fun xs m9 hxs h9 h10 => ?_⟩
            refine ⟨sz_nat (show 4 ≤ 16777216 by decide), by rw [hrl]; omega, ?_⟩
            have wnd : (ws.map (·.1)).Nodup := hsub.nodup don
            have wle : ws.length ≤ 6 := by
              have z := hsub.length_le
              rw [List.length_map] at z
              omega
            have room : isRoom ps l ts (.tup [.str t, .tup xs, .tup ups, .tup (ws.map fun p => .tup [.str p.1, .str p.2])]) = true := by
              have r1 : areRows (.tup xs) ps (some (namesP l)) = true := by
                rw [hl]
                exact hxs
              have r2 : areUpdates (.tup ups) ps (some (namesP l)) = true := by
                show (decide (ups.length ≤ 3) && ups.all (isUpd ps (some (namesP l)))) = true
                rw [decide_eq_true (by omega), hl, List.all_eq_true.mpr hup]
                rfl
              have r3 : areWays (.tup (ws.map fun p => Dat.tup [.str p.1, .str p.2])) (doersP l) ts = true := by
                show ((ws.map fun p => Dat.tup [.str p.1, .str p.2]).all (fun x => isTup x 2) && areNames (.tup ((ws.map fun p => Dat.tup [.str p.1, .str p.2]).map firstOf)) 0 6 && (ws.map fun p => Dat.tup [.str p.1, .str p.2]).all (wayOk (doersP l) ts)) = true
                have e1 : (ws.map fun p => Dat.tup [.str p.1, .str p.2]).map firstOf = (ws.map (·.1)).map Dat.str := by
                  rw [List.map_map, List.map_map]
                  rfl
                have b1 : (ws.map fun p => Dat.tup [.str p.1, .str p.2]).all (fun x => isTup x 2) = true := List.all_eq_true.mpr fun y hy => by
                  obtain ⟨p, _, rfl⟩ := List.mem_map.mp hy
                  rfl
                have b2 : areNames (.tup ((ws.map (·.1)).map Dat.str)) 0 6 = true := by
                  refine (areNames_eq (lo := 0) (hi := 6) wnd fun x hx => nmm x (dom x (hsub.subset hx))).trans ?_
                  rw [List.length_map, decide_eq_true (by omega), decide_eq_true (by omega)]
                  rfl
                have b3 : (ws.map fun p => Dat.tup [.str p.1, .str p.2]).all (wayOk (doersP l) ts) = true := List.all_eq_true.mpr fun y hy => by
                  obtain ⟨p, hp2, rfl⟩ := List.mem_map.mp hy
                  show (decide (p.1 ∈ doersP l) && isNameS p.2 && decide (p.2 ∈ ts)) = true
                  rw [decide_eq_true (hsub.subset (List.mem_map.mpr ⟨p, hp2, rfl⟩)), decide_eq_true (hwt p hp2), (hts p.2 (hwt p hp2)).1]
                  rfl
                rw [e1, b1, b2, b3]
                rfl
              show (areRows (.tup xs) ps (some (namesP l)) && areUpdates (.tup ups) ps (some (namesP l)) && areWays (.tup (ws.map fun p => .tup [.str p.1, .str p.2])) (doersP l) ts) = true
              rw [r1, r2, r3]
              rfl
            refine ⟨us2, rs ++ [.tup [.str t, .tup xs, .tup ups, .tup (ws.map fun p => .tup [.str p.1, .str p.2])]], _, _, _, _, _, _, _, _, rfl, by rw [List.length_append, hrl]; rfl, ?_, fun r hr => ?_, ?_, by omega, und2, hum2, fun _ hd => ?_, by omega, by omega⟩
            · rw [List.map_append, hrf, List.take_add_one, ht, List.map_append]
              rfl
            · rcases List.mem_append.mp hr with hr | hr
              · exact hrr r hr
              · rw [List.mem_singleton.mp hr]
                exact ⟨rfl, room⟩
            · rw [List.flatMap_append, ← hue]
              simp [roomUpd]
            · have lz := congrArg List.length hue
              have lz2 := congrArg List.length hru
              rw [List.length_append, List.length_map, List.length_map] at lz
              rw [List.length_map] at lz2
              cases i with
              | zero =>
                have rs0 : rs = [] := List.eq_nil_of_length_eq_zero hrl
                have := lse rs0 hd
                omega
              | succ i =>
                have := hus (by omega) hd
                omega
    · rintro ρ' m5' ⟨us, rs, s6, s9, s12, s13, s14, s15, s16, s17, rfl, hrl, hrf, hrr, hru, hul, und, hum, hus, h3, h4⟩
      rw [List.length_map] at hrl hrf hul h4
      rw [List.take_length] at hrf
      refine ⟨sz_nat (show 3 ≤ 16777216 by decide), k ps l rs m5' ?_ (by omega) (by omega) (fun hd z => ?_)⟩
      · exact ⟨ndp, psm, by omega, by rw [hl]; exact ndn, fun x hx => nmm x (by rw [← hl]; exact hx), hp, by omega, by omega, ⟨ts, hrf, ndt, fun x hx => (hts x hx).1, hrr⟩, ⟨us, hru, by omega, und, fun x hx => by rw [hl]; exact hum x hx⟩⟩
      · rw [hru] at z
        have lu := hus (by rw [List.length_map]; omega) hd
        rw [List.map_eq_nil_iff.mp z] at lu
        exact absurd lu (by decide)
  · obtain ⟨a, b, c, d, e, f, rfl, _⟩ := h
    rfl
end
end Aim
namespace Aim
open PySem PySem.Spec PyProof.Rows L2
section
variable {X : Cx} {pins : List (Addr × Obj)} {σ : L2.St} {H : Hp} {s : Shared} {k j : Nat} {G : Bool} {C : Addr} {nm : Str} {sp : Sp} {E : XK}
theorem ins_at (I : Inv X pins σ H s) {a dx : Addr} {fs : List (Str × V)} (e : H a = some (.ins C dx fs)) : ∃ ox od, PySem.W.InstAt s.heap a ox C od := by
  obtain ⟨mA, O, _, _, _, _⟩ := ins_get I.hok e
  obtain ⟨od, J, _⟩ := O.look
  exact ⟨_, _, J⟩
end
end Aim
namespace Aim
open PySem PySem.Spec PyProof.Rows L2
open LamX (TabB Tabs CodeO)
open Stt (cnt sto)
variable {S : Type} [Stt S]
section
variable {P : Program} {w : World} {K : PySem.W.Frag} {mg : Str → Option Value} {base : Heap} {TT : List (Addr × Str)} {k : Nat} {sp : GDSp S} {N ps : List Str} {st : Stmt}
theorem fnR_O {f : Addr} {fd : FuncData} {sp : Sp} (F : Rn P w K mg base false k f fd ps sp) (hb : L2.Binds K fd ps []) : FnR P w K mg base (L2.CX P w) k f (spO sp) := by
  intro A outer s H us vs Q E hr e0 r h
  obtain ⟨U, _, n, h⟩ := h
  have hl : vs.length = ps.length := F.len _ _ _ _ h
  have hb' := hb s us (e0.mod.kin.keeps fun b o e => (e0.bs b o e).1) (by rw [List.append_nil, ← r.length]; exact hl)
  rw [List.append_nil] at hb'
  refine codeAny_mono (F.run (s := s) (args := ⟨us, []⟩) hr (fun z => nomatch z) (env0_cutO e0) hb' r h) fun y s' hq => ?_
  match y, hq with
  | .error e, hq => exact cx_glueO e0.hok e0.frf hq
  | .ok (.ret u), hq => exact ce_glueO e0.hok e0.frf hq
structure MdD (P : Program) (w : World) (K : PySem.W.Frag) (mg : Str → Option Value) (base : Heap) (TT : List (Addr × Str)) (k : Nat) (C : Addr) (nm : Str) (sp : GDSp S) : Prop where
  ex : ∃ f : Addr, FnR P w K mg base (L2.CX P w) k f (spO (LSp K TT sp)) ∧ Meth K C nm f
end
section
variable {X : Cx} {TT : List (Addr × Str)} {E : XK} {C : Addr} {k j : Nat} {sp : GDSp S} {a b : Expr} {fa fb : GDE S} {pos : Pos}
end
end Aim
namespace Aim
open PySem PySem.Spec PyProof.Rows L2
open LamX (TabB Tabs CodeO)
open Stt (cnt sto)
variable {S : Type} [Stt S]
def SysB (base : Heap) : Prop := ∃ (o : Obj) (es : Array DictEntry) (ep : Nat), base.get? sysModules = some o ∧ o.data = .dict es ep
mutual
def pyR : Dat → PyData
  | .non => .none | .bl b => .bool b | .int i => .int i | .str x => .str x
  | .tup xs => .tuple (pyRs xs) | .lst xs => .list (pyRs xs)
  | .dct ks xs => .dict ((ks.map keyD).zip (pyRs xs))
  | .byt _ => .none | .ty _ => .none | .ref _ => .none | .pot => .none | .obj _ _ _ => .none | .exc _ _ => .none | .scr _ => .none | .dcn _ _ _ => .none
def pyRs : List Dat → List PyData
  | [] => []
  | x :: xs => pyR x :: pyRs xs
end
mutual
def okR : Dat → Bool
  | .non => true | .bl _ => true | .int _ => true | .str _ => true
  | .tup xs => okRs xs | .lst xs => okRs xs | .dct _ xs => okRs xs
  | .byt _ => false | .ty _ => false | .ref _ => false | .pot => false | .obj _ _ _ => false | .exc _ _ => false | .scr _ => false | .dcn _ _ _ => false
def okRs : List Dat → Bool
  | [] => true
  | x :: xs => okR x && okRs xs
end
theorem pyRs_len : ∀ ds : List Dat, (pyRs ds).length = ds.length
  | [] => rfl
  | _ :: r => congrArg (· + 1) (pyRs_len r)
section
variable {X : Cx} {pins : List (Addr × Obj)} {σ : L2.St} {H : Hp} {s : Shared} {n : S}
theorem SeesL.len {K : PySem.W.Frag} : ∀ {vs : List V} {ds : List Dat}, SeesL K n H vs ds → vs.length = ds.length
  | _, _, .nil => rfl
  | _, _, .cons _ r => congrArg (· + 1) r.len
mutual
theorem Sees.readsS (b : SysB X.base) (I : Inv X pins σ H s) : ∀ {v : V} {d : Dat} {u : Value}, Sees X.K n H v d → okR d = true → RelV v u → ∃ as, Reads s.heap u (pyR d) as ∧ sysModules ∉ as
  | _, _, _, .non, _, r => by
    cases r
    exact ⟨_, Reads.none, fun h => nomatch h⟩
  | _, _, _, .bl b, _, r => by
    cases r
    exact ⟨_, Reads.bool b, fun h => nomatch h⟩
  | _, _, _, .int i, _, r => by
    obtain ⟨t, rfl⟩ := r
    exact ⟨_, Reads.int i t, fun h => nomatch h⟩
  | _, _, _, .str x _, _, r => by
    obtain ⟨t, rfl⟩ := r
    exact ⟨_, Reads.str x t, fun h => nomatch h⟩
  | _, _, _, .lst (a := a) hs _ ha, p, r => by
    cases r
    obtain ⟨its, rv, ⟨o, n, ho, hc, _, hd⟩, _⟩ := I.list (.of hs)
    obtain ⟨as, hr, hn⟩ := SeesL.readsS b I ha p rv
    refine ⟨_, Reads.list ho hc hd hr, fun hm => ?_⟩
    rcases List.mem_cons.mp hm with q | q
    · obtain ⟨ob, es, ep, hb, hdt⟩ := b
      have hb' := I.bk _ _ hb
      rw [q, ho] at hb'
      obtain rfl := Option.some.inj hb'
      rw [hd] at hdt
      cases hdt
    · exact hn q
  | _, _, _, .tup hs _ ha, p, r => by
    cases r
    obtain ⟨its, rv, ⟨o, ho, hc, n, hd⟩, _⟩ := I.tuple hs.sqT
    obtain ⟨as, hr, hn⟩ := SeesL.readsS b I ha p rv
    exact ⟨_, Reads.tuple ho hc hd hr, hn⟩
  | _, _, _, .dct (a := a) (ks := ks) (xs := xs) (ds := ds) hs hk ha, p, r => by
    cases r
    obtain ⟨_, hS, vs, rk, o, es, ep, ho, hx, hd, _, hp, _⟩ := dk_rd I.hok hs
    obtain ⟨e1, e2⟩ := kv_keys rk
    have hl : (ks.map keyD).length = (pyRs ds).length := by rw [List.length_map, hk, ha.len, pyRs_len]
    have k1 : ReadsAll s.heap (es.toList.map (·.key)) (((ks.map keyD).zip (pyRs ds)).map (·.1)) [] := by
      have z1 : ((ks.map keyD).zip (pyRs ds)).map (·.1) = ks.map keyD := List.map_fst_zip (by omega)
      have z2 : (ks.zip xs).map (fun kv => keyD kv.1) = ks.map keyD := by
        have z3 : (ks.zip xs).map (fun kv => keyD kv.1) = ((ks.zip xs).map (·.1)).map keyD := by
          rw [List.map_map]
          rfl
        rw [z3, List.map_fst_zip (by omega)]
      rw [z1, ← z2, e1]
      exact keysRead hp
    rw [List.map_snd_zip (by omega)] at e2
    obtain ⟨as, hr, hn⟩ := SeesL.readsS b I ha p e2
    have k2 : ReadsAll s.heap (es.toList.map (·.val)) (((ks.map keyD).zip (pyRs ds)).map (·.2)) as := by
      rw [valsPaired hp, List.map_snd_zip (by omega)]
      exact hr
    refine ⟨_, Reads.dict ho hx.1 hd k1 k2, fun hm => ?_⟩
    rcases List.mem_cons.mp hm with q | q
    · rw [← q] at hS
      exact absurd hS (by decide)
    · exact hn q
  | _, _, _, .byt _ _, p, _ => nomatch p
  | _, _, _, .ty _, p, _ => nomatch p
  | _, _, _, .ref _, p, _ => nomatch p
  | _, _, _, .pot _ _, p, _ => nomatch p
  | _, _, _, .obj _ _ _, p, _ => nomatch p
  | _, _, _, .exc _ _ _, p, _ => nomatch p
  | _, _, _, .scr _, p, _ => nomatch p
  | _, _, _, .dcn _ _ _ _ _, p, _ => nomatch p
theorem SeesL.readsS (b : SysB X.base) (I : Inv X pins σ H s) : ∀ {vs : List V} {ds : List Dat} {us : List Value}, SeesL X.K n H vs ds → okRs ds = true → Vals vs us → ∃ as, ReadsAll s.heap us (pyRs ds) as ∧ sysModules ∉ as
  | _, _, _, .nil, _, r => by
    cases r
    exact ⟨_, ReadsAll.nil, fun h => nomatch h⟩
  | _, _, _, .cons h1 h2, p, r => by
    cases r with
    | cons r1 r2 =>
      have p := Bool.and_eq_true_iff.mp p
      obtain ⟨as, q1, n1⟩ := Sees.readsS b I h1 p.1 r1
      obtain ⟨bs, q2, n2⟩ := SeesL.readsS b I h2 p.2 r2
      refine ⟨_, ReadsAll.cons q1 q2, fun hm => ?_⟩
      rcases List.mem_append.mp hm with q | q
      · exact n1 q
      · exact n2 q
end
structure ShowD (d : Dat) : Prop where
  ok : okR d = true
  sh : (pyR d).showable = true
  dp : (pyR d).depth ≤ 40
  ln : (pyR d).shown.length ≤ sizeLine
def rReprS (K : PySem.W.Frag) : List V → Hp → VK → Prop := fun xs H Q => ∃ (U : Type) (_ : Stt U) (x : V) (n : U) (d : Dat), xs = [x] ∧ Sees K n H x d ∧ ShowD d ∧ Q (.str (pyR d).shown) H
theorem call_reprS (b : SysB X.base) (hg : X.A.guards = some []) (hu : X.A.units + 64 < cLine) : CallR X (.builtin "repr") (rReprS X.K) := by
  intro pins s σ H xs us Q I r hi7
  obtain ⟨U, _, x, m, d, ex, hd, hsd, q⟩ := hi7
  subst ex
  cases r with
  | cons rx rr =>
    cases rr
    rename_i u
    obtain ⟨ok, hs, hz, hn⟩ := hsd
    obtain ⟨as, hr, hsm⟩ := hd.readsS b I ok rx
    have fin : ∀ (h' : Heap) (u : Tok) (tk : Nat), (∀ b o, s.heap.get? b = some o → h'.get? b = some o) → EP X pins σ Q (.str (pyR d).shown u) { s with heap := h', toks := tk } := fun h' u tk k => ⟨.str (pyR d).shown, H, I.kept (t' := tk) k, ⟨_, rfl⟩, q⟩
    cases hd with
    | non => cases rx; exact P.repr_of_none (fin _ _ _ fun _ _ e => e)
    | bl b => cases rx; exact P.repr_of_bool (fin _ _ _ fun _ _ e => e)
    | int i =>
      obtain ⟨t, rfl⟩ := rx
      exact P.repr_of_int (by simpa [pyR, PyData.showable] using hs) (fin _ _ _ fun _ _ e => e)
    | str y l =>
      obtain ⟨t, rfl⟩ := rx
      exact P.repr_of_str (fin _ _ _ fun _ _ e => e) hn
    | lst h1 l h2 => cases rx; exact repr_of_reads' hr hs (fun _ => hsm) hg (by omega) (fun _ _ e => e) fin hn
    | tup h1 l h2 => cases rx; exact repr_of_reads' hr hs (fun _ => hsm) hg (by omega) (fun _ _ e => e) fin hn
    | dct h1 l h2 => cases rx; exact repr_of_reads' hr hs (fun _ => hsm) hg (by omega) (fun _ _ e => e) fin hn
    | _ => cases ok
end
section
variable {X : Cx} {K : PySem.W.Frag} {TT : List (Addr × Str)} {E : XK} {fa fb : GDE S} {a b : Expr} {pos : Pos}
def dRep2 (neg : Bool) (fa fb : GDE S) : GDE S := fun ρ n P R => fa ρ n (fun d m => ShowD d ∧ fb ρ m (fun e k => ShowD e ∧ P (.bl (neg ^^ decide ((pyR d).shown = (pyR e).shown))) k) R) R
abbrev tRepr (K : PySem.W.Frag) (f : TE) : TE := tCB (rReprS K) (tCons f tNil)
theorem dec_strV {x y : Str} : decide (V.str x = V.str y) = decide (x = y) := by
  rw [Bool.eq_iff_iff, decide_eq_true_eq, decide_eq_true_eq]
  exact ⟨fun h => by injection h, fun h => by rw [h]⟩
theorem LE.rep2 {neg : Bool} {σ : L2.St} {H : Hp} {Q : VK} (h : LE K TT E (dRep2 neg fa fb) σ H Q) : tOp (fun x y H Q => scal x y = true ∧ Q (.bl (neg ^^ decide (x = y))) H) (tRepr K (LE K TT E fa)) (tRepr K (LE K TT E fb)) σ H Q := by
  obtain ⟨ρ, n, P, R, rl, f, k, x⟩ := h
  refine ⟨ρ, n, _, R, rl, f, fun d m v H1 q1 e1 s1 => ?_, x⟩
  obtain ⟨sd, q1⟩ := q1
  refine ⟨S, _, v, m, d, rfl, s1, sd, ρ, m, _, R, rl.fre e1, q1, fun e j u H2 q2 e2 s2 => ?_, x.mono e1⟩
  obtain ⟨se, q2⟩ := q2
  refine ⟨S, _, u, j, e, rfl, s2, se, rfl, ?_⟩
  rw [dec_strV]
  exact k _ j _ H2 q2 (e1.trans e2) (.bl _)
theorem rep_eq (h : OpR X (compareOp .Eq) rEq) : OpR X (compareOp .Eq) (fun x y H Q => scal x y = true ∧ Q (.bl (false ^^ decide (x = y))) H) := by
  have e : (fun (x y : V) (H : Hp) (Q : VK) => scal x y = true ∧ Q (.bl (false ^^ decide (x = y))) H) = rEq := by
    funext x y H Q
    simp [rEq]
  rw [e]
  exact h
theorem de_repEq (ha : PE X a (tRepr X.K (LE X.K TT E fa))) (hb : PE X b (tRepr X.K (LE X.K TT E fb))) (hm : behindInMarks .Eq b = false) : PE X (.Compare a [.Eq] [b] pos) (LE X.K TT E (dRep2 false fa fb)) := (pe_cmpR (rep_eq op_eq) ha hb hm).imp fun _ _ _ h => h.rep2
end
section
variable {X : Cx}
def rNeT0 (K : PySem.W.Frag) : R2 := fun x y H Q => ∃ (a b : Addr) (xs : List V), x = .ref a ∧ y = .ref b ∧ SqT K H a xs ∧ SqT K H b [] ∧ Q (.bl (!xs.isEmpty)) H
theorem op_neT0 (hu : X.A.units + 64 < cLine) : OpR X (compareOp .NotEq) (rNeT0 X.K) := by
  intro pins s σ H x y v u Q I rx ry hi7
  obtain ⟨a, b, xs, ex, ey, ha, hb, q⟩ := hi7
  subst ex
  subst ey
  obtain rfl : v = Value.ref a := rx
  obtain rfl : u = Value.ref b := ry
  obtain ⟨i1, r1, ⟨o1, g1, c1, n1, d1⟩, _⟩ := I.tuple ha
  obtain ⟨i2, r2, ⟨o2, g2, c2, n2, d2⟩, _⟩ := I.tuple hb
  cases r2
  have l1 : s.heap.IsTuple a i1.toArray := ⟨o1, g1, c1, n1, d1⟩
  have l2 : s.heap.IsTuple b #[] := ⟨o2, g2, c2, n2, d2⟩
  have z := SeqAt.RcNeAt.tuples (A := X.A) (e := fun _ => true) l1 l2 (by omega) (fun j h1 h2 => absurd h2 (by simp))
  refine z _ _ _ _ ⟨.bl (!xs.isEmpty), H, I, ?_, q⟩
  cases r1 with
  | nil => rfl
  | cons h t => simp [L2.RelV]
def gNeT0 : G2
  | .tup xs, .tup [], P => P (.bl (!xs.isEmpty))
  | _, _, _ => False
theorem od_neT0 {K : PySem.W.Frag} : OpD K (rNeT0 K) gNeT0 := fun n x y d e H Q P g s1 s2 k => by
  unfold gNeT0 at g
  split at g
  · cases s1 with
    | tup h1 l1 q1 =>
      cases s2 with
      | tup h2 l2 q2 =>
        cases q2
        refine ⟨_, _, _, rfl, rfl, h1.sqT, h2.sqT, ?_⟩
        have e : ∀ {vs : List V} {ds : List Dat}, SeesL K n H vs ds → vs.isEmpty = ds.isEmpty := fun s => by cases s <;> rfl
        rw [e q1]
        exact k _ _ H g (.refl _) (.bl _)
  · exact g.elim
end
theorem sysB_of {base : Heap} {m : Str → Option Value} (n : base.Ns sysModules m) : SysB base := by
  obtain ⟨o, es, ep, ho, hd, _⟩ := n
  exact ⟨o, es, ep, ho, hd⟩
section
variable {P : Program} {w : World} {K : PySem.W.Frag} {mg : Str → Option Value} {h : Heap} {TT : List (Addr × Str)}
theorem at_lawS {l : PySem.W.OpenLaw} {k : Nat} {x : Str} {st : Stmt} {fa : Addr} {cs : List (Addr × Addr)} (F : Has K mg "law" st) (hfa : mg "law" = some (.ref fa)) (hTT : ∀ p ∈ TT, ∃ c, (c, p.1) ∈ cs)
    (hT : ∀ p ∈ cs, h.get? p.2 = some tab0 ∧ K.lookup p.2 = none ∧ PySem.W.CodeHd h p.1 p.2)
    (hb : ∀ (kV doc pm : Value) (an : Option Addr) (cdv ct : Value) (u : Value), bindArgs (PySem.W.fnOf "law" "law" (defArgs st) (defBody st) (defScope st) .none kV doc pm an cdv ct) ⟨[u], []⟩ = pure [(x, u)])
    (S : h.NoSeer) (D : ∀ base : Heap, SysB base → (∀ p ∈ cs, TabB base mg p.1 p.2) → DfW l.prog w K mg base true k "law" st [x] (LSp K TT spLaw)) : AtLaw l w K k 63 x mg fa h := by
  obtain ⟨f, fd, F, hm⟩ := F.ex
  have e : f = fa := by
    have := hm.symm.trans hfa
    cases this
    rfl
  subst e
  refine ⟨fd, cs, LSp K TT spLaw, hT, ?_, ?_, ?_⟩
  · obtain ⟨oc, od, kV, doc, pm, an, cdv, ct, osl, rfl, lk, hcd⟩ := F.ex
    exact fun s u => .of_eq (hb kV doc pm an cdv ct u)
  · intro H a ns hl hbits ht hs
    refine ⟨[.scr ns], 0, fun d _ => d = .bl true, R0, .cons (.scr hs) .nil, ⟨ns, rfl, hl, hbits, rfl, fun _ => rfl⟩, fun d m v H' e _ s => ?_, .zero fun p hp => ?_, .nat⟩
    · subst e
      cases s
      rfl
    · obtain ⟨c, hc⟩ := hTT p hp
      exact LamX.TabS.nil (ht _ hc)
  · intro base _ _ sy TB
    obtain ⟨mm, nm, _⟩ := S.mods
    obtain ⟨f', fd', F', R, hm', _⟩ := (D base (sysB_of (sy mm nm)) TB).ex
    have e : f' = f := by
      have := hm'.symm.trans hm
      cases this
      rfl
    subst e
    rw [fun_uniq F F']
    exact R
end
end Aim
namespace Aim
open PySem PySem.Spec PyProof.Rows L2
open LamX (TabB Tabs CodeO)
open Stt (cnt sto)
variable {S : Type} [Stt S]
section
variable {K : PySem.W.Frag} {X : Cx} {TT : List (Addr × Str)} {E : XK} {st : Stmt}
end
end Aim
namespace Aim
open PySem PySem.Spec PyProof.Rows L2
open LamX (TabB Tabs CodeO)
open Stt (cnt sto)
variable {S : Type} [Stt S]
section
variable {K : PySem.W.Frag} {X : Cx} {TT : List (Addr × Str)} {E : XK} {fa fb : GDE S}
def gTIndex : GM
  | .tup ds, [.str z], P => ∃ (ys : List Str) (j : Nat), ds = ys.map Dat.str ∧ ys[j]? = some z ∧ (∀ m, m < j → ys[m]? ≠ some z) ∧ P (.int (j : Nat))
  | _, _, _ => False
def dTIdx (fo : GDE S) (t : GDA S) : GDE S := fun ρ n P R => fo ρ n (fun d m => (∃ ds, d = .tup ds) ∧ t ρ m (fun ds k => gTIndex d ds fun z => P z k) R) R
abbrev rTIdx (K : PySem.W.Frag) : V → List V → Hp → VK → Prop := fun x xs H Q => ∃ p, ∃ ys : List Str, ∃ z j, x = .ref p ∧ xs = [.str z] ∧ SqT K H p (ys.map V.str) ∧ ys[j]? = some z ∧ (∀ m, m < j → ys[m]? ≠ some z) ∧ Q (.int (j : Nat)) H
theorem LE.tidx {fo : GDE S} {fr : GDA S} {σ : L2.St} {H : Hp} {Q : VK} (h : LE K TT E (dTIdx fo fr) σ H Q) : tBMN K (rTIdx K) (LE K TT E fo) (LA K TT E fr) σ H Q := by
  obtain ⟨ρ, n, P, R, rl, f, k, x⟩ := h
  refine ⟨ρ, n, _, R, rl, f, fun d m v H1 q1 e1 s1 => ?_, x⟩
  obtain ⟨⟨ds, rfl⟩, q1⟩ := q1
  obtain ⟨a, xs, ev, h1, l1, t1⟩ := s1.tup_iffN
  subst ev
  refine ⟨⟨a, xs, rfl, h1⟩, ρ, m, _, R, rl.fre e1, q1, fun es j vs H2 g e2 s2 => ?_, x.mono e1⟩
  have s1 := s1.mono e2.toFra
  obtain ⟨a', xs', ev, h2, l2, t2⟩ := s1.tup_iff
  cases ev
  unfold gTIndex at g
  split at g
  · rename_i ds' z e3
    cases e3
    obtain ⟨v, rfl, w⟩ := s2.one
    obtain ⟨ys, i, rfl, g1, g2, p⟩ := g
    rw [t2.txts.1] at h2
    exact ⟨a, ys, _, i, rfl, by rw [w.str_iff.1], h2, g1, g2, k _ j _ H2 p (e1.trans e2) (.int _)⟩
  · exact g.elim
theorem de_tidx {e : Expr} {fo : GDE S} {fr : GDA S} (h : PE X e (tBMN X.K (rTIdx X.K) (LE X.K TT E fo) (LA X.K TT E fr))) : PE X e (LE X.K TT E (dTIdx fo fr)) := h.imp fun _ _ _ h => h.tidx
end
section
variable {P : Program} {w : World} {K : PySem.W.Frag} {mg : Str → Option Value} {base : Heap} {G : Bool} {TT : List (Addr × Str)} {x : Str} {st : Stmt} {c : Addr} {N ps : List Str} {k : Nat}
theorem df_okCX {sp : Sp} (F : HasC K mg x st c) (S : FnScope N ps (defScope st)) (len : ∀ vs H Q E, sp vs H Q E → vs.length = ps.length)
    (hb : ∀ (kV doc pm : Value) (an : Option Addr) (cdv ct : Value) (us : List Value), us.length = ps.length → bindArgs (PySem.W.fnOf x x (defArgs st) (defBody st) (defScope st) .none kV doc pm an cdv ct) ⟨us, []⟩ = pure (ps.zip us))
    (body : ∀ (f : Addr) (A : Around) (outer : List Env) (s : Shared) (H : Hp) (vs : List V) (Q : VK) (E : XK), Room k (A.deeper (envOfC x (defScope st) s.heap.objs.size f (.ref c))) → (G = true → A.guards = some []) → sp vs H Q E →
      ∃ t, PSs (cxOf (L2.CX P w) P w K mg base N x (defScope st) f (.ref c) A outer s H E) (defBody st) t ∧ t { nx := fun _ H' => Q .non H', rt := Q } (start N vs) H) : Df P w K mg base G (k + 1) x sp := by
  obtain ⟨f, oc, od, kV, doc, pm, an, ct, osl, lk, hcd, kp, hm⟩ := F.ex
  refine ⟨f, _, ps, ⟨len, fun hr hg e0 b r q => LamX.run_ofS lk hcd S hr e0 b r (len _ _ _ _ q) fun hr' => ?_⟩, hm, kp, .all (hb _ _ _ _ _ _)⟩
  exact body _ _ _ _ _ _ _ _ hr' hg q
theorem dat_okCX {sp : GDSp S} (F : HasC K mg x st c) (hb : ∀ (kV doc pm : Value) (an : Option Addr) (cdv ct : Value) (us : List Value), us.length = ps.length → bindArgs (PySem.W.fnOf x x (defArgs st) (defBody st) (defScope st) .none kV doc pm an cdv ct) ⟨us, []⟩ = pure (ps.zip us)) (S : FnScope N ps (defScope st))
    (body : ∀ (f : Addr) (A : Around) (outer : List Env) (s : Shared) (H : Hp) (E : XK), Room k (A.deeper (envOfC x (defScope st) s.heap.objs.size f (.ref c))) → (G = true → A.guards = some []) →
      ∃ g, PSs (cxOf (L2.CX P w) P w K mg base N x (defScope st) f (.ref c) A outer s H E) (defBody st) (LS K TT E g) ∧ ∀ ds n PP R, sp ds n PP R → ds.length = ps.length ∧ g { nx := fun _ m => PP .non m, rt := PP, ex := R } (dstart N ds) n)
    (hl : ∀ ds n PP R, sp ds n PP R → ds.length = ps.length) : Df P w K mg base G (k + 1) x (LSp K TT sp) := by
  refine df_okCX F S (fun vs H Q E h => ?_) hb (fun f A outer s H vs Q E hr hG h => ?_)
  · obtain ⟨ds, n, PP, R, s, h, _⟩ := h
    rw [s.length]
    exact hl _ _ _ _ h
  · obtain ⟨g, hp, q⟩ := body f A outer s H E hr hG
    obtain ⟨ds, n, PP, R, se, h, kQ, kE, kS⟩ := h
    exact ⟨_, hp, ends_of se (q ds n PP R h).2 kQ kE kS⟩
end
end Aim
namespace Aim
open PySem PySem.Spec PyProof.Rows L2 RZ
open LamX (TabB)
section
variable {P : Program} {w : World} {K : PySem.W.Frag} {mg : Str → Option Value} {base : Heap} {TT : List (Addr × Str)}
def deedsP (l : List (Str × Dat × Str)) : List Str := (l.filter fun p => decide (p.2.2 ≠ ("" : Str))).map (·.2.2)
structure DeedsOf (l : List (Str × Dat × Str)) (ys : List Str) : Prop where
  nd : ys.Nodup
  mem : ∀ k, k ∈ ys ↔ k ∈ deedsP l
  st : sortedS ys = true
def progD (C : Addr) (ps : List Str) (l : List (Str × Dat × Str)) (rs : List Dat) (ys : List Str) : Dat := .obj C progF [namesD ps, partsD l, .tup rs, .tup (ys.map .str)]
def spProgramS (C : Addr) : DSp := fun ds n Q _ => ∃ ps l rs, ds = [namesD ps, partsD l, .tup rs] ∧ WOk ps l rs ∧ ∀ ys, DeedsOf l ys → Q (progD C ps l rs ys) n
theorem ok_programS {C C1 C2 C3 fI AE : Addr} (MK : MkH K C "Program.__init__" (inClass (top 62) 0)) (V_Program : ClsProgram K mg C) (Z : ErrP P K mg (inClass (top 23) 0) fI AE C1 C2 C3) (Y : CstP K mg) (T : Blt mg)
    (D_are_names : Df P w K mg base false 2 "are_names" (LSp K TT spAreNames)) (D_are_parts : Df P w K mg base false 3 "are_parts" (LSp K TT spParts)) (D_are_rooms : Df P w K mg base false 8 "are_rooms" (LSp K TT spRooms)) (D_ascending : Df P w K mg base false 1 "ascending" (LSp K TT spAsc)) : DfI P w K mg base TT 10 C (spProgramS C) := by
  refine ini_ok MK (fun _ _ _ _ _ _ us hl => by obtain ⟨x0, x1, x2, x3, rfl⟩ := us4 hl; rfl) sc_Program___init__ (by decide) (fun f cdv A outer s H E hr => ⟨_, (dss_cons (ds_if (dt_not (dt_val (de_call D_are_names hr (by first | decide | omega) (by first | exact hG | (intro z; cases z)) rfl (passes_call (takes_of rfl rfl rfl rfl) (fun _ _ _ _ h => h)) (da_cons (de_var (pv 1)) (da_cons de_int (da_cons (de_g rfl Y.g_MOST_PLACES) da_nil)))))) (dss_one (ds_raise (ps_raise rfl (takes_of rfl rfl rfl rfl) (pmk_aim Z.ini Z.c_BadPlaces T.n_super (hr.mono (by decide)) rfl Z.m_BadPlaces (de_var (pv 1)))))) dss_nil)
      (dss_cons (ds_if (dt_not (dt_val (de_call D_are_parts hr (by first | decide | omega) (by first | exact hG | (intro z; cases z)) rfl (passes_call (takes_of rfl rfl rfl rfl) (fun _ _ _ _ h => h)) (da_cons (de_var (pv 2)) da_nil)))) (dss_one (ds_raise (ps_raise rfl (takes_of rfl rfl rfl rfl) (pmk_aim Z.ini Z.c_BadParts T.n_super (hr.mono (by decide)) rfl Z.m_BadParts (de_var (pv 2)))))) dss_nil)
      (dss_cons (ds_if (dt_not (dt_val (de_call D_are_rooms hr (by first | decide | omega) (by first | exact hG | (intro z; cases z)) rfl (passes_call (takes_of rfl rfl rfl rfl) (fun _ _ _ _ h => h)) (da_cons (de_var (pv 3)) (da_cons (de_var (pv 1)) (da_cons (de_var (pv 2)) da_nil)))))) (dss_one (ds_raise (ps_raise rfl (takes_of rfl rfl rfl rfl) (pmk_aim Z.ini Z.c_BadRooms T.n_super (hr.mono (by decide)) rfl Z.m_BadRooms (de_var (pv 3)))))) dss_nil)
      (dss_cons (ds_self V_Program.cl V_Program.n_own_places (pv 0) (de_var (pv 1)) rfl)
      (dss_cons (ds_self V_Program.cl V_Program.n_own_parts (pv 0) (de_var (pv 2)) rfl)
      (dss_cons (ds_self V_Program.cl V_Program.n_own_rooms (pv 0) (de_var (pv 3)) rfl)
      (dss_one (ds_self V_Program.cl V_Program.n_own_deeds (pv 0) (de_call D_ascending hr (by first | decide | omega) (by first | exact hG | (intro z; cases z)) rfl (passes_call (takes_of rfl rfl rfl rfl) (fun _ _ _ _ h => h)) (da_cons (de_fr (lf_lcI (own := [("row", 4)]) rfl sc_Program___init__.nd (di_tup (de_var (pv 2))) (blkOk_by rfl) (fun _ _ _ _ _ => (dg_name (pg_name (i := 4) sc_Program___init__.nd rfl (Or.inl rfl) (Or.inr rfl)))) (fun _ _ _ _ _ => (dts_one (dt_cmp (op_neDD hr.units) od_ne (de_ix ix_seq od_ix (de_var (pv 4)) de_int (fun _ _ => rfl)) (de_g rfl Y.g_NOTHING) (nomark _)))) (fun _ _ _ _ _ => (de_ix ix_seq od_ix (de_var (pv 4)) de_int (fun _ _ => rfl))))) da_nil)) rfl)))))))), fun x ds n PP R h => ?_⟩) (fun ds n PP R h => ?_)
  · obtain ⟨ps, l, rs, rfl, W, k⟩ := h
    obtain ⟨a1, a2, a3⟩ := W.calm
    refine ⟨namesD ps, 1, 4, rfl, a1.kn.one, by decide, ?_⟩
    rw [W.names]
    refine ⟨partsD l, rfl, a2.kn, ?_⟩
    rw [W.parts]
    refine ⟨.tup rs, ps, l, rfl, a3.kn, W.ll.2, ?_⟩
    rw [W.rooms]
    have no1 : ∀ (ks : List Str) (ds : List Dat) (ρ : List Sl), oneIns (.ins x C ks ds :: .val (namesD ps) :: .val (partsD l) :: .val (.tup rs) :: [.no]) 0 := fun ks ds _ j a C' ks' ds' hj => by
      match j, hj with
      | 0, hj => exact absurd rfl hj
      | 1, _ => simp
      | 2, _ => simp
      | 3, _ => simp
      | 4, _ => simp
      | j + 5, _ => simp
    refine ⟨rfl, by simp, by decide, no1 _ _ [], ?_⟩
    refine ⟨rfl, by decide, by decide, no1 _ _ [], ?_⟩
    refine ⟨rfl, by decide, by decide, no1 _ _ [], ?_⟩
    refine compI_pure deedOf (fun p hp Q Z q z => ?_) ?_
    · obtain ⟨y, _, rfl⟩ := List.mem_map.mp hp
      refine ⟨⟨cmp_fl rfl, cmp_fl rfl⟩, ?_⟩
      rw [eqD_str]
      have q1 : (if decide (y.2.2 ≠ ("" : Str)) = true then some (Dat.str y.2.2) else none) = some (.str y.2.2) → Q (.str y.2.2) n := q (.str y.2.2)
      replace z : (if decide (y.2.2 ≠ ("" : Str)) = true then some (Dat.str y.2.2) else none) = none → Z n := z
      by_cases hz : y.2.2 = ""
      · rw [hz]
        rw [hz] at z
        exact z rfl
      · rw [beq_eq_false_iff_ne.mpr hz]
        rw [if_pos (decide_eq_true hz)] at q1
        exact q1 rfl
    rw [deedOf_map]
    have ll := W.ll.2
    refine ⟨_, rfl, ?_, fun ys nd hm st => ?_⟩
    · rw [List.length_map]
      have := List.length_filter_le (fun p : Str × Dat × Str => decide (p.2.2 ≠ ("" : Str))) l
      omega
    · refine ⟨rfl, by decide, by decide, no1 _ _ [], ?_⟩
      exact ⟨rfl, rfl, k ys ⟨nd, hm, st⟩⟩
  · obtain ⟨ps, l, rs, rfl, _⟩ := h
    rfl
end
end Aim
namespace PySem.W
open PySem PySem.Calls PyProof.Rows Builtin
section
variable {prog : Program} {w : World} {A : Around} {E : Value → Shared → Prop} {s : Shared} {K : Frag} {x C L f : Addr} {h₀ : Heap} {m : Str → Option Value} {ox : Obj} {od : Option Obj} {nm T : String}
end
end PySem.W
namespace Aim
open PySem PySem.Spec PyProof.Rows L2
open LamX (TabB Tabs CodeO)
open Stt (cnt sto)
variable {S : Type} [Stt S]
section
variable {X : Cx} {pins : List (Addr × Obj)} {σ : L2.St} {H : Hp} {s : Shared} {k j : Nat} {C f : Addr} {sp : Sp} {E : XK}
def IsAt (H : Hp) (a C : Addr) : Prop := (∃ dx fs, H a = some (.ins C dx fs)) ∨ ∃ dx ks xs, H a = some (HidX C dx a) ∧ H dx = some (OwnS (.ins ks) xs dx)
theorem IsAt.inst (I : Inv X pins σ H s) {a : Addr} (h : IsAt H a C) : ∃ ox od, PySem.W.InstAt s.heap a ox C od := by
  rcases h with ⟨dx, fs, h⟩ | ⟨dx, ks, xs, h1, h2⟩
  · exact ins_at I h
  · have y : s.heap.get? a = some (PySem.W.instObj C dx) := OwnS.at I.hok h1
    obtain ⟨_, ⟨o, es, ep, e, d⟩, _⟩ := OwnS.at I.hok h2
    exact ⟨_, some o, y, rfl, rfl, e⟩
end
section
variable {X : Cx} {TT : List (Addr × Str)} {E : XK} {k j : Nat} {C : Addr} {sp : GDSp S} {a b : Expr} {fa fb : GDE S} {fr : GDA S} {pos : Pos}
end
end Aim
namespace Aim
open PySem PySem.Spec PyProof.Rows L2
open LamX (TabB Tabs CodeO)
abbrev Rt := Addr → Option (HO × HO)
def rt (F : Rt) (H : Hp) : Hp := fun a => match F a with
  | some p => some p.2
  | none => H a
def Rt.sw (F : Rt) : Rt := fun a => (F a).map fun p => (p.2, p.1)
def soft : HO → Prop
  | .tup _ => False
  | .frz _ _ => False
  | .tbl _ => False
  | _ => True
section
variable {F : Rt} {H G : Hp} {a : Addr} {p : HO × HO}
theorem rt_in (e : F a = some p) : rt F H a = some p.2 := by unfold rt; rw [e]
theorem rt_out (e : F a = none) : rt F H a = H a := by unfold rt; rw [e]
theorem sw_in (e : F a = some p) : F.sw a = some (p.2, p.1) := by unfold Rt.sw; rw [e]; rfl
theorem sw_out (e : F a = none) : F.sw a = none := by unfold Rt.sw; rw [e]; rfl
theorem sw_of {q : HO × HO} (e : F.sw a = some q) : F a = some (q.2, q.1) := by
  unfold Rt.sw at e
  obtain ⟨p, e1, rfl⟩ := Option.map_eq_some_iff.mp e
  exact e1
theorem rtS_in (e : F a = some p) : rt F.sw G a = some p.1 := rt_in (sw_in e)
theorem rtS_out (e : F a = none) : rt F.sw G a = G a := rt_out (sw_out e)
end
structure RtOk (P : Program) (w : World) (F : Rt) (H : Hp) (h : Heap) : Prop where
  at_ : ∀ a p, F a = some p → H a = some p.1
  soft : ∀ a p, F a = some p → soft p.1
  own : ∀ a p b, F a = some p → p.1 = .own b → F b ≠ none
  ok : ∀ a p, F a = some p → ObjOk P w (rt F H) h a p.2
section
variable {P : Program} {w : World} {F : Rt} {H G : Hp} {h : Heap}
theorem RtOk.none (r : RtOk P w F H h) {a : Addr} (e : H a = Option.none) : F a = Option.none := by
  cases z : F a with
  | none => rfl
  | some p => rw [r.at_ a p z] at e; cases e
theorem RtOk.hard (r : RtOk P w F H h) {a : Addr} {o : HO} (e : H a = some o) (n : ¬ Aim.soft o) : F a = Option.none := by
  cases z : F a with
  | none => rfl
  | some p =>
    have y := r.at_ a p z
    rw [e] at y
    exact absurd (Option.some.inj y ▸ r.soft a p z) n
theorem RtOk.hok (r : RtOk P w F H h) (hok : HOk P w H h) : HOk P w (rt F H) h := fun a o e => by
  cases z : F a with
  | some p =>
    rw [rt_in z] at e
    cases e
    exact r.ok a p z
  | none =>
    rw [rt_out z] at e
    refine (hok a o e).stay (fun _ _ _ e => e) (fun b y => ?_) fun b xs y => ?_
    · rw [rt_out]
      · exact y
      cases q : F b with
      | none => rfl
      | some p =>
        have y2 := r.at_ b p q
        rw [y] at y2
        exact absurd z (r.own b p a q (Option.some.inj y2).symm)
    · rw [rt_out (r.hard y id)]
      exact y
theorem RtOk.un (r : RtOk P w F H h) {fs ex : List Addr} : Un fs ex H (rt F H) h h where
  keep := fun b o e _ _ _ => e
  slot := fun b o e _ _ _ => ⟨o.slots, e⟩
  free := fun b o e n _ => by rw [rt_out (r.none n)]; exact n
  there := fun b o e _ => ⟨o, e⟩
  tups := fun b xs e => by rw [rt_out (r.hard e id)]; exact e
  frzs := fun b o u e => by rw [rt_out (r.hard e id)]; exact e
  tbls := fun b ps e => ⟨#[], by rw [rt_out (r.hard e id), Array.append_empty]; exact e⟩
section
variable {K : PySem.W.Frag} {mg : Str → Option Value} {base : Heap} {A : Around} {outer : List Env} {s s' : Shared} {u : Value}
theorem RtOk.env0 (r : RtOk P w F H s.heap) (e : Env0 P w K mg base A outer s H) : Env0 P w K mg base A outer s (rt F H) :=
  ⟨e.frames, e.mod, fun b o q => ⟨(e.bs b o q).1, by rw [rt_out (r.none (e.bs b o q).2)]; exact (e.bs b o q).2⟩, e.bsz, e.funs, fun b q => by rw [rt_out (r.none (e.frf b q))]; exact e.frf b q, r.hok e.hok, e.bare⟩
def News (F : Rt) (G : Hp) : Prop := ∀ a p, F a = some p → G a = some p.2
theorem ce_rt {Q : VK} (r : RtOk P w F H s.heap) (back : ∀ G h, HOk P w G h → News F G → RtOk P w F.sw G h) (c : CE outer P w (rt F H) s (fun v G => News F G ∧ Q v (rt F.sw G)) u s') : CE outer P w H s Q u s' := by
  obtain ⟨v, G, os, bare, un, hok', rv, nw, q⟩ := c
  have b := back G _ hok' nw
  refine ⟨v, rt F.sw G, os, bare, ⟨fun b o e e0 => un.keep b o e (by rw [rt_out (r.none e0)]; exact e0), fun b o e e0 => un.slot b o e (by rw [rt_out (r.none e0)]; exact e0), fun b o e e0 x => ?_, un.there, fun b xs e => ?_, fun b o u e => ?_, fun b ps e => ?_⟩, b.hok hok', rv, q⟩
  · rw [rtS_out (r.none e0)]
    exact un.free b o e (by rw [rt_out (r.none e0)]; exact e0) x
  · have z := r.hard e id
    rw [rtS_out z]
    exact un.tups b xs (by rw [rt_out z]; exact e)
  · have z := r.hard e id
    rw [rtS_out z]
    exact un.frzs b o u (by rw [rt_out z]; exact e)
  · have z := r.hard e id
    rw [rtS_out z]
    exact un.tbls b ps (by rw [rt_out z]; exact e)
theorem cx_rt {E : XK} (r : RtOk P w F H s.heap) (back : ∀ G h, HOk P w G h → News F G → RtOk P w F.sw G h) (c : L2.CX P w outer (rt F H) s (fun c d G => News F G ∧ E c d (rt F.sw G)) u s') : L2.CX P w outer H s E u s' := by
  obtain ⟨a, B, G, cls, d, eu, fl, hok', ub, na, os, bare, nw, q⟩ := c
  have b := back G _ hok' nw
  refine ⟨a, B, rt F.sw G, cls, d, eu, fl, b.hok hok', ⟨fun b o e e0 => ub.keep b o e (by rw [rt_out (r.none e0)]; exact e0), ub.slot, fun b o e e0 => ?_, ub.there, fun b xs e => ?_, fun b o u e => ?_, fun b ps e => ?_⟩, ?_, os, bare, q⟩
  · rw [rtS_out (r.none e0)]
    exact ub.free b o e (by rw [rt_out (r.none e0)]; exact e0)
  · have z := r.hard e id
    rw [rtS_out z]
    exact ub.tups b xs (by rw [rt_out z]; exact e)
  · have z := r.hard e id
    rw [rtS_out z]
    exact ub.frzs b o u (by rw [rt_out z]; exact e)
  · have z := r.hard e id
    rw [rtS_out z]
    exact ub.tbls b ps (by rw [rt_out z]; exact e)
  · rw [rtS_out]
    · exact na
    cases z : F a with
    | none => rfl
    | some p => rw [nw a p z] at na; cases na
end
end
end Aim
namespace Aim
open PySem PySem.Spec PyProof.Rows L2
open LamX (TabB Tabs CodeO)
open Stt (cnt sto)
def Cont? : Shp → Prop
  | .lst => True
  | .dct _ _ => True
  | _ => False
structure WfS (st : Sto) (ow : Addr → Option (Addr × Nat)) (fr : Addr → Prop) : Prop where
  dict : ∀ a C dx es, st a = some (.inst C dx, es) → ∃ ks ds, st dx = some (.ins ks, ds)
  owner : ∀ dx ks ds, st dx = some (.ins ks, ds) → ∃ a C es, st a = some (.inst C dx, es)
  one : ∀ a b C D dx es fs, st a = some (.inst C dx, es) → st b = some (.inst D dx, fs) → a = b
  lst : ∀ l dx i, ow l = some (dx, i) → (∃ sh c, st l = some (sh, c) ∧ Cont? sh) ∧ ∃ ks ds, st dx = some (.ins ks, ds) ∧ ds[i]? = some (Dat.ref l)
  free : ∀ l, fr l → (∃ sh c, st l = some (sh, c) ∧ Cont? sh) ∧ ow l = none
  len : ∀ dx ks ds, st dx = some (.ins ks, ds) → ks.length = ds.length
  keys : ∀ l w ks c, st l = some (.dct w ks, c) → ∃ vds, c = kDats ks ++ vds ∧ vds.length = ks.length
  sysm : ∀ l w ks c, st l = some (.dct w ks, c) → (l == sysModules) = false
structure SS where
  n : Nat
  st : Sto
  ow : Addr → Option (Addr × Nat)
  fr : Addr → Prop
  wf : WfS st ow fr
def SS.put (s : SS) (k : Nat) : SS := ⟨k, s.st, s.ow, s.fr, s.wf⟩
instance sttSS : Stt SS := ⟨SS.n, SS.st, SS.put, fun _ _ => rfl, fun _ _ => rfl⟩
section
variable {K : PySem.W.Frag} {H : Hp} {s : SS}
open Classical in
noncomputable def xsOf (K : PySem.W.Frag) (s : SS) (H : Hp) (a : Addr) : List V :=
  if h : ∃ xs sh ds, s.st a = some (sh, ds) ∧ H a = some (OwnS sh xs a) ∧ shW sh xs ds ∧ SeesL K s H xs ds then h.choose else []
theorem xsOf_ok (t : StoOk K s H) {a : Addr} {sh : Shp} {ds : List Dat} (e : s.st a = some (sh, ds)) : H a = some (OwnS sh (xsOf K s H a) a) ∧ shW sh (xsOf K s H a) ds ∧ SeesL K s H (xsOf K s H a) ds := by
  have h : ∃ xs sh ds, s.st a = some (sh, ds) ∧ H a = some (OwnS sh xs a) ∧ shW sh xs ds ∧ SeesL K s H xs ds := by
    obtain ⟨xs, h1, h2, h3⟩ := t.ok a sh ds e
    exact ⟨xs, sh, ds, e, h1, h2, h3⟩
  unfold xsOf
  rw [dif_pos h]
  obtain ⟨sh', ds', e', h1, h2, h3⟩ := h.choose_spec
  rw [e] at e'
  cases e'
  exact ⟨h1, h2, h3⟩
open Classical in
noncomputable def ownerOf (s : SS) (dx : Addr) : Addr := if h : ∃ a C es, s.st a = some (.inst C dx, es) then h.choose else 0
theorem ownerOf_eq {a C dx : Addr} {es : List Dat} (e : s.st a = some (.inst C dx, es)) : ownerOf s dx = a := by
  have h : ∃ a C es, s.st a = some (.inst C dx, es) := ⟨a, C, es, e⟩
  unfold ownerOf
  rw [dif_pos h]
  obtain ⟨D, fs, e'⟩ := h.choose_spec
  exact s.wf.one _ _ _ _ _ _ _ e' e
def ksOf (s : SS) (dx : Addr) : List Str := match s.st dx with
  | some (.ins ks, _) => ks
  | _ => []
def obAt (h : Heap) (a : Addr) : Obj := (h.get? a).getD default
theorem obAt_of {h : Heap} {a : Addr} {o : Obj} (e : h.get? a = some o) : obAt h a = o := by unfold obAt; rw [e]; rfl
open Classical in
noncomputable def obOf (w : World) (ks : List NestedKey) (xs : List V) (o : Obj) : Obj :=
  if ∃ ys zs, xs = ys ++ zs ∧ DctObj w ks ys zs o then o else if h : ∃ o ys zs, xs = ys ++ zs ∧ DctObj w ks ys zs o then h.choose else o
theorem obOf_eq {w : World} {ks : List NestedKey} {xs : List V} {o : Obj} (h : ∃ ys zs, xs = ys ++ zs ∧ DctObj w ks ys zs o) : obOf w ks xs o = o := by unfold obOf; rw [if_pos h]
theorem obOf_ok {w : World} {ks : List NestedKey} {xs : List V} {o : Obj} (h : ∃ o ys zs, xs = ys ++ zs ∧ DctObj w ks ys zs o) : ∃ ys zs, xs = ys ++ zs ∧ DctObj w ks ys zs (obOf w ks xs o) := by
  unfold obOf
  split
  · assumption
  · exact h.choose_spec
noncomputable def frF (K : PySem.W.Frag) (s : SS) (H : Hp) (h : Heap) : Rt := fun a => match s.st a with
  | none => none
  | some (.lst, _) => some (OwnS .lst (xsOf K s H a) a, .lst (xsOf K s H a))
  | some (.inst C dx, _) => some (HidX C dx a, .ins C dx ((ksOf s dx).zip (xsOf K s H dx)))
  | some (.ins ks, _) => some (OwnS (.ins ks) (xsOf K s H a) a, .own (ownerOf s a))
  | some (.dct w ks, _) => some (OwnS (.dct w ks) (xsOf K s H a) a, FixO (obOf w ks (xsOf K s H a) (obAt h a)) a)
section
variable {h h0 : Heap} {P0 : Program} {w0 : World}
theorem frF_none {a : Addr} : frF K s H h a = none ↔ s.st a = none := by
  unfold frF
  cases e : s.st a with
  | none => simp
  | some p =>
    obtain ⟨sh, ds⟩ := p
    cases sh <;> simp
theorem frF_old (t : StoOk K s H) {a : Addr} {p : HO × HO} (e : frF K s H h a = some p) : ∃ sh ds, s.st a = some (sh, ds) ∧ p.1 = OwnS sh (xsOf K s H a) a := by
  cases z : s.st a with
  | none => rw [frF_none.mpr z] at e; cases e
  | some q =>
    obtain ⟨sh, ds⟩ := q
    refine ⟨sh, ds, rfl, ?_⟩
    unfold frF at e
    rw [z] at e
    cases sh with
    | lst => cases e; rfl
    | ins ks => cases e; rfl
    | dct w ks => cases e; rfl
    | inst C dx =>
      cases e
      obtain ⟨_, w, _⟩ := xsOf_ok t z
      obtain ⟨w, _⟩ : xsOf K s H a = [] ∧ _ := w
      rw [w]
theorem frF_at (t : StoOk K s H) {a : Addr} {p : HO × HO} (e : frF K s H h a = some p) : H a = some p.1 := by
  obtain ⟨sh, ds, h1, h2⟩ := frF_old t e
  rw [h2]
  exact (xsOf_ok t h1).1
theorem dct_at {P : Program} {w : World} (t : StoOk K s H) (hok : HOk P w H h) {a : Addr} {w' : World} {ks : List NestedKey} {ds : List Dat} (e : s.st a = some (.dct w' ks, ds)) : (a == sysModules) = false ∧ ∃ (ys zs : List V), xsOf K s H a = ys ++ zs ∧ h.get? a = some (obOf w' ks (xsOf K s H a) (obAt h a)) ∧ DctObj w' ks ys zs (obOf w' ks (xsOf K s H a) (obAt h a)) := by
  obtain ⟨n, o, ys, zs, q1, q2, q3⟩ := OwnS.at hok (xsOf_ok t e).1
  rw [obAt_of q2, obOf_eq ⟨ys, zs, q1, q3⟩]
  exact ⟨n, ys, zs, q1, q2, q3⟩
theorem dct_see (t : StoOk K s H) (h : Heap) {a : Addr} {w' : World} {ks : List NestedKey} {ds : List Dat} (e : s.st a = some (.dct w' ks, ds)) : ∃ (ys zs : List V), xsOf K s H a = ys ++ zs ∧ DctObj w' ks ys zs (obOf w' ks (xsOf K s H a) (obAt h a)) := by
  obtain ⟨_, ⟨_, q⟩, _⟩ := xsOf_ok t e
  exact obOf_ok q
theorem frF_ok {P : Program} {w : World} (t : StoOk K s H) (hok : HOk P w H h) : RtOk P w (frF K s H h) H h where
  at_ := fun a p e => frF_at t e
  soft := fun a p e => by
    obtain ⟨sh, ds, _, h2⟩ := frF_old t e
    rw [h2]
    unfold OwnS
    exact trivial
  own := fun a p b e h => by
    obtain ⟨sh, ds, _, h2⟩ := frF_old t e
    rw [h2] at h
    unfold OwnS at h
    cases h
  ok := fun a p e => by
    cases z : s.st a with
    | none => rw [frF_none.mpr z] at e; cases e
    | some q =>
      obtain ⟨sh, ds⟩ := q
      have e0 := e
      unfold frF at e
      rw [z] at e
      cases sh with
      | lst =>
        cases e
        exact OwnO.at hok (xsOf_ok t z).1
      | dct w' ks =>
        cases e
        obtain ⟨_, _, _, _, q, _⟩ := dct_at t hok z
        exact FixO.ok q
      | ins ks =>
        cases e
        obtain ⟨_, ⟨o, es, ep, q, _⟩, _⟩ := OwnS.at hok (xsOf_ok t z).1
        exact ⟨o, q⟩
      | inst C dx =>
        cases e
        obtain ⟨ks, es, ed⟩ := s.wf.dict _ _ _ _ z
        obtain ⟨hd, wd, sd⟩ := xsOf_ok t ed
        obtain ⟨⟨l1, l2⟩, ⟨o, es', ep, q, d⟩, mA, ns, r, wi⟩ := OwnS.at hok hd
        obtain ⟨hx, wx, _⟩ := xsOf_ok t z
        have hx2 : h.get? a = some (PySem.W.instObj C dx) := OwnS.at hok hx
        have ne : dx ≠ a := fun y => by
          rw [y, z] at ed
          cases ed
        have ek : ksOf s dx = ks := by unfold ksOf; rw [ed]
        refine ⟨?_, ?_, ne, hx2, mA, ns, ?_, ?_⟩
        · have y : frF K s H h dx = some (OwnS (.ins ks) (xsOf K s H dx) dx, .own (ownerOf s dx)) := by
            unfold frF
            rw [ed]
          rw [rt_in y, ownerOf_eq z]
        · rw [ek, List.length_zip, l1, Nat.min_self]
          exact l2
        · rw [ek]
          exact r
        · rw [ek]
          exact wi
theorem frF_back {P : Program} {w : World} {G : Hp} (t : StoOk K s H) (hok0 : HOk P0 w0 H h0) (hok : HOk P w G h) (nw : News (frF K s H h0) G) : RtOk P w (frF K s H h0).sw G h where
  at_ := fun a q e => nw a _ (sw_of e)
  soft := fun a q e => by
    have e1 := sw_of e
    cases z : s.st a with
    | none => rw [frF_none.mpr z] at e1; cases e1
    | some q =>
      obtain ⟨sh, ds⟩ := q
      unfold frF at e1
      rw [z] at e1
      cases sh <;> (injection e1 with e1; injection e1 with _ e1; rw [← e1]; exact trivial)
  own := fun a q b e h y => by
    have e1 := sw_of e
    cases z : s.st a with
    | none => rw [frF_none.mpr z] at e1; cases e1
    | some q =>
      obtain ⟨sh, ds⟩ := q
      unfold frF at e1
      rw [z] at e1
      cases sh with
      | lst => injection e1 with e1; injection e1 with _ e1; rw [← e1] at h; cases h
      | dct w' ks => injection e1 with e1; injection e1 with _ e1; rw [← e1] at h; unfold FixO at h; cases h
      | inst C dx => injection e1 with e1; injection e1 with _ e1; rw [← e1] at h; cases h
      | ins ks =>
        injection e1 with e1; injection e1 with _ e1; rw [← e1] at h
        cases h
        obtain ⟨x, C, es, ex⟩ := s.wf.owner _ _ _ z
        rw [ownerOf_eq ex] at y
        have y2 : frF K s H h0 x = none := by
          cases q : frF K s H h0 x with
          | none => rfl
          | some p => rw [sw_in q] at y; cases y
        rw [frF_none.mp y2] at ex
        cases ex
  ok := fun a q e => by
    have e1 := sw_of e
    have hG := hok _ _ (nw a _ e1)
    obtain ⟨sh, ds, z, h1⟩ := frF_old t e1
    have h1 : q.2 = OwnS sh (xsOf K s H a) a := h1
    rw [h1]
    unfold frF at e1
    rw [z] at e1
    cases sh with
    | lst =>
      injection e1 with e1; injection e1 with _ e1
      rw [← e1] at hG
      obtain ⟨l, its, n, r, q⟩ := hG
      exact OwnO.ok l r q
    | dct w' ks =>
      injection e1 with e1; injection e1 with _ e1
      obtain ⟨n, ys, zs, q1, q2, q3⟩ := dct_at t hok0 z
      have hg : h.get? a = some (obOf w' ks (xsOf K s H a) (obAt h0 a)) := by
        have y := nw a _ (sw_of e)
        have y : G a = some q.1 := y
        rw [← e1] at y
        exact FixO.at hok y
      exact ⟨⟨n, _, ys, zs, q1, hg, q3⟩, ⟨_, hg⟩, fun h1 h2 ⟨n, o, ys, zs, q1, q2, q3⟩ f => ⟨n, o, ys, zs, q1, f _ q2, q3⟩⟩
    | inst C dx =>
      injection e1 with e1; injection e1 with _ e1
      rw [← e1] at hG
      obtain ⟨_, _, _, hg, _⟩ := hG
      exact ⟨hg, ⟨_, hg⟩, fun h1 h2 q f => f _ q⟩
    | ins ks =>
      obtain ⟨x, C, es, ex⟩ := s.wf.owner _ _ _ z
      have y : frF K s H h0 x = some (HidX C a x, .ins C a ((ksOf s a).zip (xsOf K s H a))) := by
        unfold frF
        rw [ex]
      have ek : ksOf s a = ks := by unfold ksOf; rw [z]
      have hX := hok _ _ (nw x _ y)
      rw [ek] at hX
      obtain ⟨ho, hl, ne, hg, mA, ns, r, wi⟩ := hX
      obtain ⟨hd, wd, _⟩ := xsOf_ok t z
      have wd : ks.length = (xsOf K s H a).length := wd
      refine OwnS.insOk ⟨⟨wd, ?_⟩, ?_, mA, ns, r, wi⟩
      · rw [List.length_zip, wd, Nat.min_self] at hl
        exact hl
      · obtain ⟨o, es, ep, e1, e2, _⟩ := ns.ns
        exact ⟨o, es, _, e1, e2⟩
end
end
section
variable {S U : Type} [Stt S] [Stt U] {K : PySem.W.Frag} {n : S} {m : U} {H : Hp}
mutual
theorem Sees.cast (e : cnt n ≤ cnt m) : ∀ {v : V} {d : Dat}, Sees K n H v d → Sees K m H v d
  | _, _, .non => .non
  | _, _, .bl b => .bl b
  | _, _, .int i => .int i
  | _, _, .str x l => .str x l
  | _, _, .byt x l => .byt x l
  | _, _, .ty x => .ty x
  | _, _, .ref a => .ref a
  | _, _, .pot h l => .pot h (Nat.le_trans l e)
  | _, _, .tup hs l ha => .tup hs l (SeesL.cast e ha)
  | _, _, .lst hs l ha => .lst hs l (SeesL.cast e ha)
  | _, _, .scr hs => .scr hs
  | _, _, .dct hs hk ha => .dct hs hk (SeesL.cast e ha)
  | _, _, .obj hs hk ha => .obj hs hk (SeesL.cast e ha)
  | _, _, .dcn h1 h2 h3 h4 h5 => .dcn h1 h2 h3 (SeesL.cast e h4) (SeesL.cast e h5)
  | _, _, .exc h1 h2 h3 => .exc h1 h2 (Sees.cast e h3)
theorem SeesL.cast (e : cnt n ≤ cnt m) : ∀ {vs : List V} {ds : List Dat}, SeesL K n H vs ds → SeesL K m H vs ds
  | _, _, .nil => .nil
  | _, _, .cons h r => .cons (Sees.cast e h) (SeesL.cast e r)
end
end
mutual
inductive FrzD (s : SS) : Dat → Dat → Prop
  | same (d : Dat) : FrzD s d d
  | obj {a C dx : Addr} {es : List Dat} {ks : List Str} {ds ds' : List Dat} : s.st a = some (.inst C dx, es) → s.st dx = some (.ins ks, ds) → FrzL s ds ds' → FrzD s (.ref a) (.obj C ks ds')
  | own {l : Addr} {ds ds' : List Dat} : s.st l = some (.lst, ds) → FrzL s ds ds' → FrzD s (.ref l) (.lst ds')
  | dct {l : Addr} {w : World} {ks : List NestedKey} {ds ds' : List Dat} : s.st l = some (.dct w ks, kDats ks ++ ds) → FrzL s ds ds' → FrzD s (.ref l) (.dcn w ks ds')
  | tup {ds ds' : List Dat} : FrzL s ds ds' → FrzD s (.tup ds) (.tup ds')
  | lst {ds ds' : List Dat} : FrzL s ds ds' → FrzD s (.lst ds) (.lst ds')
  | dcn {w : World} {ks : List NestedKey} {ds ds' : List Dat} : FrzL s ds ds' → FrzD s (.dcn w ks ds) (.dcn w ks ds')
  | objI {C : Addr} {ks : List Str} {ds ds' : List Dat} : FrzL s ds ds' → FrzD s (.obj C ks ds) (.obj C ks ds')
  | exc {C : Addr} {d d' : Dat} : FrzD s d d' → FrzD s (.exc C d) (.exc C d')
inductive FrzL (s : SS) : List Dat → List Dat → Prop
  | nil : FrzL s [] []
  | cons {d d' : Dat} {ds ds' : List Dat} : FrzD s d d' → FrzL s ds ds' → FrzL s (d :: ds) (d' :: ds')
end
theorem SeesL.split {S : Type} [Stt S] {K : PySem.W.Frag} {n : S} {H : Hp} : ∀ {ys zs : List V} {ds es : List Dat}, ys.length = ds.length → SeesL K n H (ys ++ zs) (ds ++ es) → SeesL K n H ys ds ∧ SeesL K n H zs es
  | [], _, [], _, _, h => ⟨.nil, h⟩
  | _ :: _, _, _ :: _, _, l, .cons h r => ⟨.cons h (SeesL.split (Nat.succ.inj l) r).1, (SeesL.split (Nat.succ.inj l) r).2⟩
section
variable {K : PySem.W.Frag} {H : Hp} {s : SS} {h : Heap} {P : Program} {w : World}
theorem frF_perm (t : StoOk K s H) {a : Addr} {o : HO} (e : H a = some o) (p : Perm a o) : frF K s H h a = none := by
  cases z : frF K s H h a with
  | none => rfl
  | some q =>
    obtain ⟨sh, ds, _, h⟩ := frF_old t z
    have y := frF_at t z
    rw [e, h] at y
    exact absurd (Option.some.inj y) (p.2.1 _)
theorem frF_pot (t : StoOk K s H) {a : Addr} {k : Nat} (e : H a = some (PotO k a)) : frF K s H h a = none := by
  cases z : frF K s H h a with
  | none => rfl
  | some q =>
    obtain ⟨sh, ds, _, h⟩ := frF_old t z
    have y := frF_at t z
    rw [e, h] at y
    exact absurd (Option.some.inj y).symm own_pot
theorem Frb.frz (t : StoOk K s H) : Frb s H s (rt (frF K s H h) H) := ⟨Nat.le_refl _, fun b o e p => by rw [rt_out (frF_perm t e p)]; exact e, fun b k l e => ⟨k, l, by rw [rt_out (frF_pot t e)]; exact e⟩⟩
theorem FrzL.len : ∀ {ds ds' : List Dat}, FrzL s ds ds' → ds.length = ds'.length
  | _, _, .nil => rfl
  | _, _, .cons _ r => congrArg (· + 1) r.len
mutual
theorem Sees.frz (t : StoOk K s H) : ∀ {v : V} {d d' : Dat}, FrzD s d d' → Sees K s H v d → Sees K s.n (rt (frF K s H h) H) v d'
  | v, _, _, .same d => fun z => (z.monoB (.frz t)).cast (m := s.n) (show Stt.cnt s ≤ Stt.cnt s.n from Nat.le_refl s.n)
  | v, _, _, .obj (a := a) (C := C) (dx := dx) (ks := ks) h1 h2 h3 => fun z => by
    rw [z.ref_iff]
    obtain ⟨hd, wd, sd⟩ := xsOf_ok t h2
    have wd : ks.length = (xsOf K s H dx).length := wd
    have ek : ksOf s dx = ks := by unfold ksOf; rw [h2]
    have y : frF K s H h a = some (HidX C dx a, .ins C dx ((ksOf s dx).zip (xsOf K s H dx))) := by
      unfold frF
      rw [h1]
    rw [ek] at y
    exact .obj (rt_in y) wd (SeesL.frz t h3 sd)
  | v, _, _, .own (l := l) h1 h3 => fun z => by
    rw [z.ref_iff]
    obtain ⟨hd, wd, sd⟩ := xsOf_ok t h1
    have y : frF K s H h l = some (OwnS .lst (xsOf K s H l) l, .lst (xsOf K s H l)) := by
      unfold frF
      rw [h1]
    exact .lst (rt_in y) wd (SeesL.frz t h3 sd)
  | v, _, _, .dct (l := l) (w := w') (ks := ks) (ds := ds) h1 h3 => fun z => by
    rw [z.ref_iff]
    obtain ⟨hd, wd, sd⟩ := xsOf_ok t h1
    obtain ⟨ys, zs, q1, q3⟩ := dct_see t h h1
    have n := s.wf.sysm _ _ _ _ h1
    have y : frF K s H h l = some (OwnS (.dct w' ks) (xsOf K s H l) l, FixO (obOf w' ks (xsOf K s H l) (obAt h l)) l) := by
      unfold frF
      rw [h1]
    rw [q1] at sd
    have lk : ys.length = (kDats ks).length := by
      obtain ⟨es, ep, _, en⟩ := q3.ents
      rw [kDats_len, en.len.1]
    obtain ⟨s1, s2⟩ := sd.split lk
    exact .dcn (rt_in y) n q3 ((s1.monoB (.frz t)).cast (m := s.n) (show Stt.cnt s ≤ Stt.cnt s.n from Nat.le_refl s.n)) (SeesL.frz t h3 s2)
  | v, _, _, .tup h1 => fun z => by
    cases z with
    | tup hs l ha => exact .tup ((Frb.frz t).sqN hs) l (SeesL.frz t h1 ha)
  | v, _, _, .lst h1 => fun z => by
    cases z with
    | lst hs l ha => exact .lst ((Frb.frz t).keep _ _ hs (perm_ext (fun _ z => nomatch z) fun _ z => nomatch z)) l (SeesL.frz t h1 ha)
  | v, _, _, .dcn h1 => fun z => by
    cases z with
    | dcn a1 a2 a3 a4 a5 => exact .dcn ((Frb.frz t).keep _ _ a1 (perm_fix a3)) a2 a3 ((a4.monoB (.frz t)).cast (m := s.n) (show Stt.cnt s ≤ Stt.cnt s.n from Nat.le_refl s.n)) (SeesL.frz t h1 a5)
  | v, _, _, .objI h1 => fun z => by
    cases z with
    | obj a1 a2 a3 => exact .obj ((Frb.frz t).ins a1) a2 (SeesL.frz t h1 a3)
  | v, _, _, .exc h0 => fun z => by
    cases z with
    | exc h1 h2 h3 => exact .exc ((Frb.frz t).keep _ _ h1 perm_xcv) ((Frb.frz t).xd h2) (Sees.frz t h0 h3)
theorem SeesL.frz (t : StoOk K s H) : ∀ {vs : List V} {ds ds' : List Dat}, FrzL s ds ds' → SeesL K s H vs ds → SeesL K s.n (rt (frF K s H h) H) vs ds'
  | _, _, _, .nil => fun z => by cases z; exact .nil
  | _, _, _, .cons h1 r => fun z => by
    cases z with
    | cons z1 z2 => exact .cons (Sees.frz t h1 z1) (SeesL.frz t r z2)
end
end
end Aim
namespace Aim
open PySem PySem.Spec PyProof.Rows L2
open LamX (TabB Tabs CodeO)
open Stt (cnt sto)
mutual
def calmS (ok : Addr → Prop) : Dat → Prop
  | .non => True | .bl _ => True | .int _ => True | .str _ => True | .byt _ => True | .ty _ => True | .ref _ => True | .pot => True
  | .tup xs => calmsS ok xs
  | .dct _ xs => calmsS ok xs
  | .exc _ d => calmS ok d
  | .obj C _ xs => ok C ∧ calmsS ok xs
  | .lst _ => False
  | .scr _ => False
  | .dcn _ _ _ => False
def calmsS (ok : Addr → Prop) : List Dat → Prop
  | [] => True
  | d :: ds => calmS ok d ∧ calmsS ok ds
end
def NoFix (a : Addr) (o : HO) : Prop := ∀ (ob : Obj) (es : Array DictEntry) (ep : Nat), ob.data = .dict es ep → o ≠ FixO ob a
theorem noFix_soft {a : Addr} {o : HO} (h : ∀ φ, o ≠ .ext φ) : NoFix a o := fun ob es ep _ z => h _ z
theorem noFix_pot {a : Addr} {k : Nat} : NoFix a (PotO k a) := fun ob es ep d z => fix_pot d z.symm
theorem noFix_flds {a : Addr} {φ : Heap → Prop} (h : ∀ h : Heap, φ h → ∃ (o : Obj) (vs : Array Value), h.get? a = some o ∧ o.data = .fields vs) : NoFix a (.ext φ) := fun ob es ep d z => by
  unfold FixO at z
  injection z with z
  obtain ⟨g, hg⟩ := heap_obj a d
  obtain ⟨o, vs, e1, e2⟩ := h g ((congrFun z g).mpr hg)
  rw [hg] at e1
  cases e1
  rw [d] at e2
  cases e2
theorem noFix_xcv {a : Addr} {cls : Value} {dd : Option Addr} : NoFix a (XcV cls dd a) := noFix_flds fun h ⟨oe, vs, e, _, q⟩ => ⟨oe, vs, e, q⟩
theorem noFix_code {a : Addr} {q : Str} : NoFix a (CodeO a q) := noFix_flds fun h ⟨oc, vs, t, e, q, _⟩ => ⟨oc, vs, e, q⟩
def Kp (ok : Addr → Prop) (a : Addr) (o : HO) : Prop := (∀ C dx fs, o = .ins C dx fs → ok C) ∧ (∀ x, o ≠ .own x) ∧ (∀ xs, o ≠ .lst xs) ∧ NoFix a o
section
variable {S U : Type} [Stt S] [Stt U]
structure ThawB (ok : Addr → Prop) (n : U) (G : Hp) (m : S) (G' : Hp) : Prop where
  le : cnt n ≤ cnt m
  keep : ∀ a o, G a = some o → Kp ok a o → G' a = some o
variable {K : PySem.W.Frag} {ok : Addr → Prop} {n : U} {G : Hp} {m : S} {G' : Hp}
theorem kp_ext {a : Addr} {o : HO} (h1 : ∀ C dx fs, o ≠ .ins C dx fs) (h2 : ∀ x, o ≠ .own x) (h3 : ∀ xs, o ≠ .lst xs) (h4 : NoFix a o := by exact noFix_soft fun _ z => nomatch z) : Kp ok a o := ⟨fun C dx fs z => absurd z (h1 C dx fs), h2, h3, h4⟩
theorem ThawB.sqN (e : ThawB ok n G m G') {a : Addr} {xs : List V} (h : SqN K G a xs) : SqN K G' a xs := h.imp (fun ⟨o, h, z⟩ => ⟨o, e.keep _ _ h (kp_ext (fun _ _ _ z => nomatch z) (fun _ z => nomatch z) (fun _ z => nomatch z)), z⟩) id
theorem ThawB.dct (e : ThawB ok n G m G') {a : Addr} {kvs : List (Key × V)} (h : Rd G a (.dK kvs)) : Rd G' a (.dK kvs) := h.imp (fun h => e.keep _ _ h (kp_ext (fun _ _ _ z => nomatch z) (fun _ z => nomatch z) (fun _ z => nomatch z))) fun ⟨o, h⟩ => ⟨o, e.keep _ _ h (kp_ext (fun _ _ _ z => nomatch z) (fun _ z => nomatch z) (fun _ z => nomatch z))⟩
theorem ThawB.obj (e : ThawB ok n G m G') {a C dx : Addr} {fs : List (Str × V)} (h : G a = some (.ins C dx fs)) (c : ok C) : G' a = some (.ins C dx fs) := e.keep _ _ h ⟨fun D dy gs z => (by cases z; exact c), (fun _ z => nomatch z), (fun _ z => nomatch z), noFix_soft fun _ z => nomatch z⟩
theorem ThawB.ext (e : ThawB ok n G m G') {a : Addr} {φ : Heap → Prop} (h : G a = some (.ext φ)) (nf : NoFix a (.ext φ)) : G' a = some (.ext φ) := e.keep _ _ h (kp_ext (fun _ _ _ z => nomatch z) (fun _ z => nomatch z) (fun _ z => nomatch z) nf)
theorem ThawB.xd (e : ThawB ok n G m G') {a : Addr} {fs : List (Str × V)} (h : G a = some (.xd fs)) : G' a = some (.xd fs) := e.keep _ _ h (kp_ext (fun _ _ _ z => nomatch z) (fun _ z => nomatch z) (fun _ z => nomatch z))
theorem ThawB.pot (e : ThawB ok n G m G') {a : Addr} {k : Nat} (h : G a = some (PotO k a)) : G' a = some (PotO k a) := e.ext h noFix_pot
theorem ThawB.xcv (e : ThawB ok n G m G') {a : Addr} {c : Value} {d : Option Addr} (h : G a = some (XcV c d a)) : G' a = some (XcV c d a) := e.ext h noFix_xcv
mutual
theorem Sees.thawB (e : ThawB ok n G m G') : ∀ {v : V} {d : Dat}, Sees K n G v d → calmS ok d → Sees K m G' v d
  | _, _, .non => fun _ => .non
  | _, _, .bl b => fun _ => .bl b
  | _, _, .int i => fun _ => .int i
  | _, _, .str x l => fun _ => .str x l
  | _, _, .byt x l => fun _ => .byt x l
  | _, _, .ty x => fun _ => .ty x
  | _, _, .ref a => fun _ => .ref a
  | _, _, .pot h l => fun _ => .pot (e.pot h) (Nat.le_trans l e.le)
  | _, _, .tup hs l ha => fun c => .tup (e.sqN hs) l (SeesL.thawB e ha c)
  | _, _, .lst _ _ _ => fun c => c.elim
  | _, _, .scr _ => fun c => c.elim
  | _, _, .dcn _ _ _ _ _ => fun c => c.elim
  | _, _, .dct hs hk ha => fun c => .dct (e.dct hs) hk (SeesL.thawB e ha c)
  | _, _, .obj hs hk ha => fun c => .obj (e.obj hs c.1) hk (SeesL.thawB e ha c.2)
  | _, _, .exc h1 h2 h3 => fun c => .exc (e.xcv h1) (e.xd h2) (Sees.thawB e h3 c)
theorem SeesL.thawB (e : ThawB ok n G m G') : ∀ {vs : List V} {ds : List Dat}, SeesL K n G vs ds → calmsS ok ds → SeesL K m G' vs ds
  | _, _, .nil => fun _ => .nil
  | _, _, .cons h r => fun c => .cons (Sees.thawB e h c.1) (SeesL.thawB e r c.2)
end
end
def offS (s : SS) (C : Addr) : Prop := ∀ a D dx es, s.st a = some (.inst D dx, es) → D ≠ C
section
variable {K : PySem.W.Frag} {TT : List (Addr × Str)} {H G : Hp} {s : SS} {m : Nat} {h : Heap} {P : Program} {w : World}
theorem frF_new (t : StoOk K s H) (hok : HOk P w H h) {a : Addr} {p : HO × HO} (e : frF K s H h a = some p) : (∃ C dx fs es, s.st a = some (.inst C dx, es) ∧ p.2 = .ins C dx fs) ∨ (∃ x, p.2 = .own x) ∨ (∃ xs, p.2 = .lst xs) ∨ ∃ (o : Obj) (es : Array DictEntry) (ep : Nat), o.data = .dict es ep ∧ p.2 = FixO o a := by
  cases z : s.st a with
  | none => rw [frF_none.mpr z] at e; cases e
  | some q =>
    obtain ⟨sh, ds⟩ := q
    unfold frF at e
    rw [z] at e
    cases sh with
    | lst => cases e; exact .inr (.inr (.inl ⟨_, rfl⟩))
    | dct w' ks =>
      cases e
      obtain ⟨_, _, _, _, _, d⟩ := dct_at t hok z
      obtain ⟨es, ep, d, _⟩ := d.ents
      exact .inr (.inr (.inr ⟨_, es, ep, d, rfl⟩))
    | ins ks => cases e; exact .inr (.inl ⟨_, rfl⟩)
    | inst C dx => cases e; exact .inl ⟨C, dx, _, _, rfl, rfl⟩
theorem frF_out (t : StoOk K s H) (hok : HOk P w H h) (nw : News (frF K s H h) G) {a : Addr} {o : HO} (e : G a = some o) (h1 : ∀ C dx fs, o = .ins C dx fs → offS s C) (h2 : ∀ x, o ≠ .own x) (h3 : ∀ xs, o ≠ .lst xs) (h4 : NoFix a o) : frF K s H h a = none := by
  cases z : frF K s H h a with
  | none => rfl
  | some p =>
    have y := nw a p z
    rw [e] at y
    cases y
    rcases frF_new t hok z with ⟨C, dx, fs, es, q1, q2⟩ | ⟨x, q⟩ | ⟨xs, q⟩ | ⟨o, es, ep, d, q⟩
    · exact absurd rfl (h1 C dx fs q2 _ _ _ _ q1)
    · exact absurd q (h2 x)
    · exact absurd q (h3 xs)
    · exact absurd q (h4 o es ep d)
theorem keepS (t : StoOk K s H) (hok : HOk P w H h) (nw : News (frF K s H h) G) {a : Addr} {o : HO} (e : G a = some o) (h1 : ∀ C dx fs, o = .ins C dx fs → offS s C) (h2 : ∀ x, o ≠ .own x) (h3 : ∀ xs, o ≠ .lst xs) (h4 : NoFix a o) : rt (frF K s H h).sw G a = some o := by
  rw [rtS_out (frF_out t hok nw e h1 h2 h3 h4)]
  exact e
theorem Sees.thaw (t : StoOk K s H) (hok : HOk P w H h) (nw : News (frF K s H h) G) {v : V} {d : Dat} (z : Sees K m G v d) (c : calmS (offS s) d) : Sees K (s.put m) (rt (frF K s H h).sw G) v d := z.thawB (m := s.put m) ⟨Nat.le_refl m, fun a o e k => keepS t hok nw e k.1 k.2.1 k.2.2.1 k.2.2.2⟩ c
theorem SeesL.thaw (t : StoOk K s H) (hok : HOk P w H h) (nw : News (frF K s H h) G) {vs : List V} {ds : List Dat} (z : SeesL K m G vs ds) (c : calmsS (offS s) ds) : SeesL K (s.put m) (rt (frF K s H h).sw G) vs ds := z.thawB (m := s.put m) ⟨Nat.le_refl m, fun a o e k => keepS t hok nw e k.1 k.2.1 k.2.2.1 k.2.2.2⟩ c
theorem tabs_rt {F : Rt} (tb : Tabs TT H) (hF : ∀ a o, H a = some o → ((∃ ps, o = .tbl ps) ∨ ∃ q, o = CodeO a q) → F a = none) : Tabs TT (rt F H) := fun x hx => by
  obtain ⟨ps, h1, h2, h3⟩ := tb x hx
  refine ⟨ps, by rw [rt_out (hF _ _ h1 (.inl ⟨_, rfl⟩))]; exact h1, h2, fun pos cv hc => ?_⟩
  obtain ⟨c, e1, e2⟩ := h3 pos cv hc
  exact ⟨c, e1, by rw [rt_out (hF _ _ e2 (.inr ⟨_, rfl⟩))]; exact e2⟩
theorem tabs_frz (t : StoOk K s H) (tb : Tabs TT H) : Tabs TT (rt (frF K s H h) H) := tabs_rt tb fun a o e hh => by
  cases z : frF K s H h a with
  | none => rfl
  | some q =>
    obtain ⟨sh, ds, _, y⟩ := frF_old t z
    have w := frF_at t z
    rw [e, y] at w
    rcases hh with ⟨ps, rfl⟩ | ⟨q, rfl⟩
    · unfold OwnS at w
      cases w
    · exact absurd (Option.some.inj w) own_code
theorem tabs_thaw (t : StoOk K s H) (hok : HOk P w H h) (nw : News (frF K s H h) G) (tb : Tabs TT G) : Tabs TT (rt (frF K s H h).sw G) := tabs_rt tb fun a o e hh => by
  refine sw_out (frF_out t hok nw e (fun C dx fs z => ?_) (fun x z => ?_) (fun xs z => ?_) ?_)
  all_goals first
    | (subst z; rcases hh with ⟨ps, z⟩ | ⟨q, z⟩ <;> first | (cases z; done) | (unfold CodeO at z; cases z))
    | (rcases hh with ⟨ps, rfl⟩ | ⟨q, rfl⟩ <;> first | exact noFix_code | exact noFix_soft fun _ z => nomatch z)
theorem news_fra (t : StoOk K s H) (hok : HOk P w H h) (e : Frb s.n (rt (frF K s H h) H) m G) : News (frF K s H h) G := fun a p z => by
  refine e.keep a _ (rt_in z) ?_
  rcases frF_new t hok z with ⟨C, dx, fs, es, _, q⟩ | ⟨x, q⟩ | ⟨xs, q⟩ | ⟨o, es, ep, d, q⟩
  rotate_left 3
  · rw [q]
    exact ⟨fun k => fix_pot d, fun {sh} xs => fix_own d, fun ps z => by unfold FixO at z; cases z⟩
  all_goals
    rw [q]
    exact perm_ext (fun _ z => nomatch z) fun _ z => nomatch z
theorem Frb.thaw (t : StoOk K s H) (e : Frb s.n (rt (frF K s H h) H) m G) : Frb s H (s.put m) (rt (frF K s H h).sw G) := ⟨e.le, fun b o q p => by
  have z := frF_perm (h := h) t q p
  rw [rtS_out z]
  exact e.keep b o (by rw [rt_out z]; exact q) p, fun b k l q => by
  have z := frF_pot (h := h) t q
  rw [rtS_out z]
  exact e.pot b k l (by rw [rt_out z]; exact q)⟩
theorem StoOk.thaw (t : StoOk K s H) (e : Frb s.n (rt (frF K s H h) H) m G) : StoOk K (s.put m) (rt (frF K s H h).sw G) := ⟨fun a sh ds q => by
  obtain ⟨h1, h2, h3⟩ := xsOf_ok t (show s.st a = some (sh, ds) from q)
  refine ⟨_, ?_, h2, h3.monoB (.thaw t e)⟩
  have q : s.st a = some (sh, ds) := q
  cases z : frF K s H h a with
  | none => rw [frF_none.mp z] at q; cases q
  | some p =>
    obtain ⟨sh', ds', q', y⟩ := frF_old t z
    rw [q] at q'
    cases q'
    rw [rtS_in z, y]⟩
theorem Fra.thaw (t : StoOk K s H) (hok : HOk P w H h) (e : Fra K TT s.n (rt (frF K s H h) H) m G) : Fra K TT s H (s.put m) (rt (frF K s H h).sw G) :=
  ⟨.thaw t e.toFrb, fun tb => tabs_thaw t hok (news_fra t hok e.toFrb) (e.tab (tabs_frz t tb)), fun _ => .thaw t e.toFrb⟩
theorem Fre.thaw (t : StoOk K s H) (hok : HOk P w H h) (e : Fre K TT s.n (rt (frF K s H h) H) m G) : Fre K TT s H (s.put m) (rt (frF K s H h).sw G) :=
  ⟨.thaw t hok e.toFra, fun b xs q z => by
    have y : frF K s H h b = none := frF_none.mpr z
    rw [rtS_out y]
    exact ⟨(e.own b xs (by rw [rt_out y]; exact q) rfl).1, z⟩⟩
inductive FrzSl (s : SS) : Sl → Sl → Prop
  | same (a : Sl) : FrzSl s a a
  | no (a : Sl) : FrzSl s a .no
  | val {d d' : Dat} : FrzD s d d' → FrzSl s (.val d) (.val d')
inductive FrzSls (s : SS) : List Sl → List Sl → Prop
  | nil : FrzSls s [] []
  | cons {a b : Sl} {as bs : List Sl} : FrzSl s a b → FrzSls s as bs → FrzSls s (a :: as) (b :: bs)
theorem FrzSls.len {as bs : List Sl} (h : FrzSls s as bs) : as.length = bs.length := by
  induction h with
  | nil => rfl
  | cons _ _ ih => exact congrArg (· + 1) ih
theorem FrzSls.get {as bs : List Sl} (h : FrzSls s as bs) : ∀ {i : Nat} {b : Sl}, bs[i]? = some b → ∃ a, as[i]? = some a ∧ FrzSl s a b := by
  induction h with
  | nil => intro i b e; simp at e
  | cons h _ ih =>
    intro i b e
    cases i with
    | zero => simp at e; subst e; exact ⟨_, rfl, h⟩
    | succ i => obtain ⟨a, e1, e2⟩ := ih (by simpa using e); exact ⟨a, by simpa using e1, e2⟩
theorem SlR.frz (t : StoOk K s H) {h : Heap} {a b : Sl} {o : Option V} (f : FrzSl s a b) (hs0 : SlR K s H a o) : SlR K s.n (rt (frF K s H h) H) b o := by
  have castL : ∀ {vs : List V} {ds : List Dat}, SeesL K s H vs ds → SeesL K s.n (rt (frF K s H h) H) vs ds := fun z => (z.monoB (.frz t)).cast (m := s.n) (show Stt.cnt s ≤ Stt.cnt s.n from Nat.le_refl s.n)
  cases f with
  | no => exact .no
  | val f =>
    cases hs0 with
    | val z => exact .val (z.frz t f)
  | same =>
    cases hs0 with
    | no => exact .no
    | val z => exact .val (z.frz t (.same _))
    | own l h1 hs h2 => exact .own l (by rw [rt_out (frF_none.mpr hs)]; exact h1) rfl (castL h2)
    | ins l h1 h2 hs h3 => exact .ins l (by rw [rt_out (frF_none.mpr hs.1)]; exact h1) (by rw [rt_out (frF_none.mpr hs.2)]; exact h2) ⟨rfl, rfl⟩ (castL h3)
theorem Rel.frz {h : Heap} {ρ ρ' : List Sl} {σ : L2.St} (r : Rel K ρ s σ H) (f : FrzSls s ρ ρ') : Rel K ρ' s.n σ (rt (frF K s H h) H) :=
  ⟨by rw [← f.len]; exact r.len, fun i b e => by
    obtain ⟨a, e1, e2⟩ := f.get e
    obtain ⟨o, e3, q⟩ := r.sl i a e1
    exact ⟨o, e3, q.frz r.st e2⟩, fun i j a b ne h1 h2 => by
    have key : ∀ i a, Owns ρ' σ i a → Owns ρ σ i a := fun i a hq80 => by
      obtain ⟨⟨ds, e1⟩, e2⟩ := hq80
      obtain ⟨c, e3, e4⟩ := f.get e1
      cases e4 with
      | same => exact ⟨⟨ds, e3⟩, e2⟩
    exact r.ap i j a b ne (key _ _ h1) (key _ _ h2), .nat⟩
end
section
variable {X : Cx} {TT : List (Addr × Str)} {E : XK} {e : Expr} {es : List Expr}
end
end Aim
namespace Aim
open PySem PySem.Spec PyProof.Rows L2
open LamX (TabB Tabs CodeO)
open Stt (cnt sto)
inductive Fv where
  | im (d : Dat) | ls (ds : List Dat) | dc (w : World) (ks : List NestedKey) (ds : List Dat)
def Fv.dat : Fv → Dat
  | .im d => d
  | .ls ds => .lst ds
  | .dc w ks ds => .dcn w ks ds
def contFv : Shp → List Dat → Option Fv
  | .lst, c => some (.ls c)
  | .dct w ks, c => some (.dc w ks (c.drop ks.length))
  | _, _ => none
theorem contFv_of {sh : Shp} (h : Cont? sh) (c : List Dat) : ∃ fv, contFv sh c = some fv := by
  cases sh <;> first | exact h.elim | exact ⟨_, rfl⟩
def fvOf (s : SS) (dx : Addr) (i : Nat) (d : Dat) : Fv := match d with
  | .ref l => if s.ow l = some (dx, i) then ((s.st l).bind fun p => contFv p.1 p.2).getD (.im d) else .im d
  | _ => .im d
def fvsOf (s : SS) (dx : Addr) : Nat → List Dat → List Fv
  | _, [] => []
  | i, d :: ds => fvOf s dx i d :: fvsOf s dx (i + 1) ds
open Classical in
noncomputable def vw (s : SS) (a : Addr) : Option (Addr × List Str × List Fv) := match s.st a with
  | some (.inst C dx, _) => (match s.st dx with
    | some (.ins ks, ds) => some (C, ks, fvsOf s dx 0 ds)
    | _ => none)
  | some (sh, c) => if s.fr a then (contFv sh c).map fun f => (0, [], [f]) else none
  | none => none
theorem vw_mk {s : SS} {a C dx : Addr} {es : List Dat} {ks : List Str} {ds : List Dat} (h1 : s.st a = some (.inst C dx, es)) (h2 : s.st dx = some (.ins ks, ds)) : vw s a = some (C, ks, fvsOf s dx 0 ds) := by
  unfold vw
  rw [h1]
  dsimp only
  rw [h2]
theorem vw_mkF {s : SS} {a : Addr} {sh : Shp} {c : List Dat} {f : Fv} (h1 : s.st a = some (sh, c)) (h2 : s.fr a) (h3 : contFv sh c = some f) : vw s a = some (0, [], [f]) := by
  unfold vw
  rw [h1]
  cases sh with
  | inst C dx => cases h3
  | ins ks => cases h3
  | lst => dsimp only; rw [if_pos h2, h3]; rfl
  | dct w ks => dsimp only; rw [if_pos h2, h3]; rfl
theorem vw_none {s : SS} {a : Addr} (h : ∀ C dx es, s.st a ≠ some (.inst C dx, es)) (h2 : ¬ s.fr a) : vw s a = none := by
  unfold vw
  split
  · rename_i C dx es e
    exact absurd e (h C dx es)
  · rw [if_neg h2]
  · rfl
theorem fr_st {s : SS} {a : Addr} (h : s.st a = none) : ¬ s.fr a := fun z => by
  obtain ⟨⟨sh, c, e, _⟩, _⟩ := s.wf.free a z
  rw [h] at e
  cases e
inductive FrzF (s : SS) : List Fv → List Dat → Prop
  | nil : FrzF s [] []
  | im {d d' : Dat} {fs : List Fv} {ds : List Dat} : FrzD s d d' → FrzF s fs ds → FrzF s (.im d :: fs) (d' :: ds)
  | ls {c c' : List Dat} {fs : List Fv} {ds : List Dat} : FrzL s c c' → FrzF s fs ds → FrzF s (.ls c :: fs) (.lst c' :: ds)
  | dc {w : World} {ks : List NestedKey} {c c' : List Dat} {fs : List Fv} {ds : List Dat} : FrzL s c c' → FrzF s fs ds → FrzF s (.dc w ks c :: fs) (.dcn w ks c' :: ds)
theorem FrzL.refl {s : SS} : ∀ ds : List Dat, FrzL s ds ds
  | [] => .nil
  | d :: ds => .cons (.same d) (FrzL.refl ds)
theorem FrzF.all {s : SS} : ∀ fs : List Fv, FrzF s fs (fs.map Fv.dat)
  | [] => .nil
  | .im d :: fs => .im (.same d) (FrzF.all fs)
  | .ls c :: fs => .ls (.refl c) (FrzF.all fs)
  | .dc w ks c :: fs => .dc (.refl c) (FrzF.all fs)
section
variable {X : Cx} {TT : List (Addr × Str)} {E : XK} {e : Expr}
end
end Aim
namespace Aim
open PySem PySem.Spec PyProof.Rows L2
open LamX (TabB Tabs CodeO)
open Stt (cnt sto)
def setKs (f : Str) : List Str → List Str
  | [] => [f]
  | k :: ks => if k = f then k :: ks else k :: setKs f ks
def setDs {α : Type} (f : Str) (d : α) : List Str → List α → List α
  | [], ds => ds ++ [d]
  | k :: ks, x :: xs => if k = f then d :: xs else x :: setDs f d ks xs
  | _ :: _, [] => []
def idxF (f : Str) : List Str → Nat
  | [] => 0
  | k :: ks => if k = f then 0 else idxF f ks + 1
theorem setDs_len {α : Type} (f : Str) (d : α) : ∀ {ks : List Str} {ds : List α}, ks.length = ds.length → (setKs f ks).length = (setDs f d ks ds).length
  | [], [], _ => rfl
  | k :: ks, x :: xs, l => by
    unfold setKs setDs
    split
    · exact l
    · exact congrArg (· + 1) (setDs_len f d (Nat.succ.inj l))
theorem setDs_get {α : Type} {f : Str} {d : α} : ∀ {ks : List Str} {ds : List α}, ks.length = ds.length → (setDs f d ks ds)[idxF f ks]? = some d ∧ ∀ i, i ≠ idxF f ks → (setDs f d ks ds)[i]? = ds[i]?
  | [], [], _ => ⟨rfl, fun i h => by
    cases i with
    | zero => exact absurd rfl h
    | succ i => simp [setDs]⟩
  | k :: ks, x :: xs, l => by
    unfold setDs idxF
    by_cases e : k = f
    · rw [if_pos e, if_pos e]
      refine ⟨rfl, fun i h => ?_⟩
      cases i with
      | zero => exact absurd rfl h
      | succ i => simp
    · rw [if_neg e, if_neg e]
      obtain ⟨h1, h2⟩ := setDs_get (f := f) (d := d) (ks := ks) (ds := xs) (Nat.succ.inj l)
      refine ⟨by simpa using h1, fun i h => ?_⟩
      cases i with
      | zero => simp
      | succ i => simpa using h2 i fun z => h (by rw [z])
section
variable {s s' : SS} {dx : Addr} {t : Nat} {f : Str} {d : Dat} {fv : Fv}
theorem fvs_same : ∀ {ds : List Dat} {i : Nat}, (∀ j e, i ≤ j → fvOf s' dx j e = fvOf s dx j e) → fvsOf s' dx i ds = fvsOf s dx i ds
  | [], _, _ => rfl
  | e :: ds, i, h => by
    unfold fvsOf
    rw [h i e (Nat.le_refl _), fvs_same fun j e' hj => h j e' (by omega)]
theorem fvs_set (ho : ∀ j e, j ≠ t → fvOf s' dx j e = fvOf s dx j e) (hv : fvOf s' dx t d = fv) : ∀ {ks : List Str} {ds : List Dat} {i : Nat}, ks.length = ds.length → t = i + idxF f ks → fvsOf s' dx i (setDs f d ks ds) = setDs f fv ks (fvsOf s dx i ds)
  | [], [], i, _, e => by
    have : t = i := e
    subst this
    show [fvOf s' dx t d] = _
    rw [hv]
    rfl
  | k :: ks, x :: xs, i, l, e => by
    unfold setDs idxF at *
    by_cases hk : k = f
    · rw [if_pos hk] at e ⊢
      have : t = i := e
      subst this
      show fvOf s' dx t d :: fvsOf s' dx (t + 1) xs = (if k = f then _ else _)
      rw [if_pos hk, hv, fvs_same fun j e' hj => ho j e' (by omega)]
    · rw [if_neg hk] at e ⊢
      show fvOf s' dx i x :: fvsOf s' dx (i + 1) (setDs f d ks xs) = (if k = f then _ else _)
      rw [if_neg hk, ho i x (by omega), fvs_set ho hv (Nat.succ.inj l) (by omega)]
end
def ContOk (p : Addr) (sh : Shp) (c : List Dat) : Prop := Cont? sh ∧ ∀ w ks, sh = .dct w ks → (p == sysModules) = false ∧ ∃ vds, c = kDats ks ++ vds ∧ vds.length = ks.length
theorem vw_else {s s' : SS} {x C dx : Addr} {es : List Dat} (hx : s.st x = some (.inst C dx, es)) (hi : ∀ a C dx es, s'.st a = some (.inst C dx, es) ↔ s.st a = some (.inst C dx, es)) (hd : ∀ a ks ds, a ≠ dx → (s'.st a = some (.ins ks, ds) ↔ s.st a = some (.ins ks, ds))) (hf : ∀ dy j e, dy ≠ dx → fvOf s' dy j e = fvOf s dy j e) (hfr : ∀ a, s'.fr a ↔ s.fr a) (hst : ∀ a, s.fr a → s'.st a = s.st a) {y : Addr} (h : y ≠ x) : vw s' y = vw s y := by
  have fin : (∀ C dx es, s.st y ≠ some (.inst C dx, es)) → vw s' y = vw s y := fun no => by
    by_cases z : s.fr y
    · obtain ⟨⟨sh, c, e, k⟩, _⟩ := s.wf.free y z
      obtain ⟨f, ef⟩ := contFv_of k c
      rw [vw_mkF e z ef, vw_mkF (by rw [hst y z]; exact e) ((hfr y).mpr z) ef]
    · rw [vw_none no z, vw_none (fun C dx es w => no C dx es ((hi _ _ _ _).mp w)) fun w => z ((hfr y).mp w)]
  cases e : s.st y with
  | none => exact fin fun C dx es z => by rw [e] at z; cases z
  | some q =>
    obtain ⟨sh, us⟩ := q
    cases sh with
    | inst D dy =>
      have ne : dy ≠ dx := fun z => h (s.wf.one _ _ _ _ _ _ _ e (z ▸ hx))
      obtain ⟨ks, ds, ed⟩ := s.wf.dict _ _ _ _ e
      rw [vw_mk e ed, vw_mk ((hi _ _ _ _).mpr e) ((hd _ _ _ ne).mpr ed), fvs_same fun j e' _ => hf dy j e' ne]
    | ins ks => exact fin fun C dx es z => by rw [e] at z; cases z
    | lst => exact fin fun C dx es z => by rw [e] at z; cases z
    | dct w ks => exact fin fun C dx es z => by rw [e] at z; cases z
open Classical in
theorem SS.fld_ex (s : SS) {x C dx : Addr} {es : List Dat} {ks : List Str} {ds : List Dat} (h1 : s.st x = some (.inst C dx, es)) (h2 : s.st dx = some (.ins ks, ds)) (l : ks.length = ds.length) (f : Str) (d : Dat) :
    ∃ s' : SS, s'.n = s.n ∧ (∀ a, s'.st a = if a = dx then some (.ins (setKs f ks), setDs f d ks ds) else s.st a) ∧ ∀ y, vw s' y = if y = x then some (C, setKs f ks, setDs f (.im d) ks (fvsOf s dx 0 ds)) else vw s y := by
  let st' : Sto := fun a => if a = dx then some (.ins (setKs f ks), setDs f d ks ds) else s.st a
  let ow' : Addr → Option (Addr × Nat) := fun l => if s.ow l = some (dx, idxF f ks) then none else s.ow l
  have stx : st' dx = some (.ins (setKs f ks), setDs f d ks ds) := if_pos rfl
  have sto' : ∀ a, a ≠ dx → st' a = s.st a := fun a n => if_neg n
  have old : ∀ {a : Addr} {sh : Shp} {c : List Dat}, (∀ ks, sh ≠ .ins ks) → (st' a = some (sh, c) ↔ s.st a = some (sh, c)) := fun {a sh c} n => by
    by_cases h : a = dx
    · rw [h, stx, h2]
      constructor <;> (intro z; cases z; exact absurd rfl (n _))
    · rw [sto' a h]
  have cont : ∀ {a : Addr} {sh : Shp} {c : List Dat}, s.st a = some (sh, c) → Cont? sh → st' a = some (sh, c) := fun {a sh c} e k => (old fun ks z => by rw [z] at k; exact k).mpr e
  have oldI : ∀ {a D dy : Addr} {us : List Dat}, st' a = some (.inst D dy, us) ↔ s.st a = some (.inst D dy, us) := old fun _ z => nomatch z
  have oldD : ∀ {a : Addr} {w : World} {ks : List NestedKey} {us : List Dat}, st' a = some (.dct w ks, us) ↔ s.st a = some (.dct w ks, us) := old fun _ z => nomatch z
  have std : ∀ a ks' us, a ≠ dx → (st' a = some (.ins ks', us) ↔ s.st a = some (.ins ks', us)) := fun a ks' us h => by rw [sto' a h]
  have wf : WfS st' ow' s.fr := by
    refine ⟨fun a D dy us e => ?_, fun dy ks' us e => ?_, fun a b D D' dy us us' e e' => s.wf.one _ _ _ _ _ _ _ (oldI.mp e) (oldI.mp e'), fun l' dy i e => ?_, fun l' z => ?_, fun dy ks' us e => ?_, fun l' w ks' c e => s.wf.keys _ _ _ _ (oldD.mp e), fun l' w ks' c e => s.wf.sysm _ _ _ _ (oldD.mp e)⟩
    · obtain ⟨ks', us', e2⟩ := s.wf.dict _ _ _ _ (oldI.mp e)
      by_cases h : dy = dx
      · exact ⟨_, _, if_pos h⟩
      · exact ⟨ks', us', (std _ _ _ h).mpr e2⟩
    · by_cases h : dy = dx
      · subst h
        exact ⟨x, C, es, oldI.mpr h1⟩
      · obtain ⟨a, D, us', e2⟩ := s.wf.owner _ _ _ ((std _ _ _ h).mp e)
        exact ⟨a, D, us', oldI.mpr e2⟩
    · replace e : (if s.ow l' = some (dx, idxF f ks) then none else s.ow l') = some (dy, i) := e
      split at e
      · cases e
      · rename_i hn
        obtain ⟨⟨sh, c, e1, k⟩, ks', us, e2, e3⟩ := s.wf.lst _ _ _ e
        refine ⟨⟨sh, c, cont e1 k, k⟩, ?_⟩
        by_cases h : dy = dx
        · subst h
          rw [h2] at e2
          cases e2
          exact ⟨_, _, if_pos rfl, by rw [(setDs_get l).2 i fun z => hn (by rw [e, z])]; exact e3⟩
        · exact ⟨_, _, (std _ _ _ h).mpr e2, e3⟩
    · obtain ⟨⟨sh, c, e1, k⟩, e2⟩ := s.wf.free l' z
      exact ⟨⟨sh, c, cont e1 k, k⟩, by show (if s.ow l' = some (dx, idxF f ks) then none else s.ow l') = none; rw [e2]; rfl⟩
    · by_cases h : dy = dx
      · rw [h, stx] at e
        cases e
        exact setDs_len f d l
      · exact s.wf.len _ _ _ ((std _ _ _ h).mp e)
  let s' : SS := ⟨s.n, st', ow', s.fr, wf⟩
  have ho : ∀ dy j e, (dy ≠ dx ∨ j ≠ idxF f ks) → fvOf s' dy j e = fvOf s dy j e := fun dy j e h => by
    unfold fvOf
    cases e with
    | ref l' =>
      have eo : s'.ow l' = some (dy, j) ↔ s.ow l' = some (dy, j) := by
        show (if s.ow l' = some (dx, idxF f ks) then none else s.ow l') = some (dy, j) ↔ _
        by_cases z : s.ow l' = some (dx, idxF f ks)
        · rw [if_pos z, z]
          constructor
          · intro w; cases w
          · intro w
            cases w
            rcases h with h | h <;> exact absurd rfl h
        · rw [if_neg z]
      by_cases z : s.ow l' = some (dy, j)
      · obtain ⟨⟨sh, c, e1, k⟩, _⟩ := s.wf.lst _ _ _ z
        dsimp only
        rw [if_pos z, if_pos (eo.mpr z), e1, show s'.st l' = _ from cont e1 k]
      · dsimp only
        rw [if_neg z, if_neg fun w => z (eo.mp w)]
    | _ => rfl
  have hv : fvOf s' dx (idxF f ks) d = .im d := by
    unfold fvOf
    cases d with
    | ref l' =>
      dsimp only
      rw [if_neg]
      show ¬ (if s.ow l' = some (dx, idxF f ks) then none else s.ow l') = some (dx, idxF f ks)
      by_cases z : s.ow l' = some (dx, idxF f ks)
      · rw [if_pos z]
        exact fun w => nomatch w
      · rw [if_neg z]
        exact z
    | _ => rfl
  refine ⟨s', rfl, fun a => rfl, fun y => ?_⟩
  by_cases h : y = x
  · subst h
    rw [if_pos rfl, vw_mk (oldI.mpr h1) (show s'.st dx = _ from if_pos rfl), fvs_set (t := idxF f ks) (fun j e hj => ho dx j e (.inr hj)) hv l (by omega)]
  · rw [if_neg h]
    refine vw_else h1 (fun a C dx es => oldI) std (fun dy j e hd => ho dy j e (.inl hd)) (fun a => Iff.rfl) (fun a z => ?_) h
    obtain ⟨⟨sh, c, e1, k⟩, _⟩ := s.wf.free a z
    rw [e1]
    exact cont e1 k
open Classical in
theorem SS.fldC_ex (s : SS) {x C dx p : Addr} {es : List Dat} {ks : List Str} {ds : List Dat} (h1 : s.st x = some (.inst C dx, es)) (h2 : s.st dx = some (.ins ks, ds)) (l : ks.length = ds.length) (f : Str) {sh : Shp} {c : List Dat} {fv : Fv} (ck : ContOk p sh c) (hc : contFv sh c = some fv) (hp : s.st p = none) :
    ∃ s' : SS, s'.n = s.n ∧ (∀ a, s'.st a = if a = p then some (sh, c) else if a = dx then some (.ins (setKs f ks), setDs f (.ref p) ks ds) else s.st a) ∧ ∀ y, vw s' y = if y = x then some (C, setKs f ks, setDs f fv ks (fvsOf s dx 0 ds)) else vw s y := by
  have npd : dx ≠ p := fun z => by rw [z, hp] at h2; cases h2
  have op : s.ow p = none := by
    cases z : s.ow p with
    | none => rfl
    | some q =>
      obtain ⟨⟨sh, c, e1, _⟩, _⟩ := s.wf.lst _ _ _ z
      rw [hp] at e1
      cases e1
  have np : ∀ {a : Addr} {q : Shp × List Dat}, s.st a = some q → a ≠ p := fun e z => by rw [z, hp] at e; cases e
  let st' : Sto := fun a => if a = p then some (sh, c) else if a = dx then some (.ins (setKs f ks), setDs f (.ref p) ks ds) else s.st a
  let ow' : Addr → Option (Addr × Nat) := fun l => if l = p then some (dx, idxF f ks) else if s.ow l = some (dx, idxF f ks) then none else s.ow l
  have stp : st' p = some (sh, c) := if_pos rfl
  have stx : st' dx = some (.ins (setKs f ks), setDs f (.ref p) ks ds) := by
    show (if dx = p then _ else if dx = dx then _ else _) = _
    rw [if_neg npd, if_pos rfl]
  have sto' : ∀ a, a ≠ p → a ≠ dx → st' a = s.st a := fun a n1 n2 => by
    show (if a = p then _ else if a = dx then _ else _) = _
    rw [if_neg n1, if_neg n2]
  have nc : (∀ ks, sh ≠ .ins ks) ∧ ∀ C dx, sh ≠ .inst C dx := ⟨fun ks z => by rw [z] at ck; exact ck.1, fun C dx z => by rw [z] at ck; exact ck.1⟩
  have sti : ∀ a D dy us, st' a = some (.inst D dy, us) ↔ s.st a = some (.inst D dy, us) := fun a D dy us => by
    by_cases h0 : a = p
    · rw [h0, stp, hp]
      constructor
      · intro z
        cases z
        exact absurd rfl (nc.2 _ _)
      · intro z; cases z
    by_cases h : a = dx
    · rw [h, stx, h2]
      constructor <;> (intro z; cases z)
    · rw [sto' a h0 h]
  have std : ∀ a ks' us, a ≠ dx → (st' a = some (.ins ks', us) ↔ s.st a = some (.ins ks', us)) := fun a ks' us h => by
    by_cases h0 : a = p
    · rw [h0, stp, hp]
      constructor
      · intro z
        cases z
        exact absurd rfl (nc.1 _)
      · intro z; cases z
    · rw [sto' a h0 h]
  have cont : ∀ {a : Addr} {sh : Shp} {c : List Dat}, s.st a = some (sh, c) → Cont? sh → st' a = some (sh, c) := fun {a sh c} e k => by
    rw [sto' a (np e) fun z => by rw [z, h2] at e; cases e; exact k]
    exact e
  have dd : ∀ {l' : Addr} {w : World} {ks' : List NestedKey} {c' : List Dat}, st' l' = some (.dct w ks', c') → (l' == sysModules) = false ∧ ∃ vds, c' = kDats ks' ++ vds ∧ vds.length = ks'.length := fun {l' w ks' c'} e => by
    by_cases h0 : l' = p
    · rw [h0, stp] at e
      cases e
      rw [h0]
      exact ck.2 _ _ rfl
    by_cases h : l' = dx
    · rw [h, stx] at e
      cases e
    · rw [sto' _ h0 h] at e
      exact ⟨s.wf.sysm _ _ _ _ e, s.wf.keys _ _ _ _ e⟩
  have wf : WfS st' ow' s.fr := by
    refine ⟨fun a D dy us e => ?_, fun dy ks' us e => ?_, fun a b D D' dy us us' e e' => s.wf.one _ _ _ _ _ _ _ ((sti _ _ _ _).mp e) ((sti _ _ _ _).mp e'), fun l' dy i e => ?_, fun l' z => ?_, fun dy ks' us e => ?_, fun l' w ks' c' e => (dd e).2, fun l' w ks' c' e => (dd e).1⟩
    · obtain ⟨ks', us', e2⟩ := s.wf.dict _ _ _ _ ((sti _ _ _ _).mp e)
      by_cases h : dy = dx
      · rw [h]
        exact ⟨_, _, stx⟩
      · exact ⟨ks', us', (std _ _ _ h).mpr e2⟩
    · by_cases h : dy = dx
      · subst h
        exact ⟨x, C, es, (sti _ _ _ _).mpr h1⟩
      · obtain ⟨a, D, us', e2⟩ := s.wf.owner _ _ _ ((std _ _ _ h).mp e)
        exact ⟨a, D, us', (sti _ _ _ _).mpr e2⟩
    · replace e : (if l' = p then some (dx, idxF f ks) else if s.ow l' = some (dx, idxF f ks) then none else s.ow l') = some (dy, i) := e
      by_cases h0 : l' = p
      · rw [if_pos h0] at e
        cases e
        rw [h0]
        exact ⟨⟨_, _, stp, ck.1⟩, _, _, stx, (setDs_get l).1⟩
      rw [if_neg h0] at e
      split at e
      · cases e
      · rename_i hn
        obtain ⟨⟨sh', c', e1, k⟩, ks', us, e2, e3⟩ := s.wf.lst _ _ _ e
        refine ⟨⟨sh', c', cont e1 k, k⟩, ?_⟩
        by_cases h : dy = dx
        · subst h
          rw [h2] at e2
          cases e2
          exact ⟨_, _, stx, by rw [(setDs_get l).2 i fun z => hn (by rw [e, z])]; exact e3⟩
        · exact ⟨_, _, (std _ _ _ h).mpr e2, e3⟩
    · obtain ⟨⟨sh', c', e1, k⟩, e2⟩ := s.wf.free l' z
      refine ⟨⟨sh', c', cont e1 k, k⟩, ?_⟩
      show (if l' = p then some (dx, idxF f ks) else if s.ow l' = some (dx, idxF f ks) then none else s.ow l') = none
      rw [if_neg (np e1), e2]
      rfl
    · by_cases h : dy = dx
      · rw [h, stx] at e
        cases e
        exact setDs_len f _ l
      · exact s.wf.len _ _ _ ((std _ _ _ h).mp e)
  let s' : SS := ⟨s.n, st', ow', s.fr, wf⟩
  have ho : ∀ dy j e, (dy ≠ dx ∨ j ≠ idxF f ks) → fvOf s' dy j e = fvOf s dy j e := fun dy j e h => by
    unfold fvOf
    cases e with
    | ref l' =>
      have eo : s'.ow l' = some (dy, j) ↔ s.ow l' = some (dy, j) := by
        show (if l' = p then some (dx, idxF f ks) else if s.ow l' = some (dx, idxF f ks) then none else s.ow l') = some (dy, j) ↔ _
        by_cases h0 : l' = p
        · rw [if_pos h0, h0, op]
          constructor
          · intro w
            cases w
            rcases h with h | h <;> exact absurd rfl h
          · intro w; cases w
        rw [if_neg h0]
        by_cases z : s.ow l' = some (dx, idxF f ks)
        · rw [if_pos z, z]
          constructor
          · intro w; cases w
          · intro w
            cases w
            rcases h with h | h <;> exact absurd rfl h
        · rw [if_neg z]
      by_cases z : s.ow l' = some (dy, j)
      · obtain ⟨⟨sh', c', e1, k⟩, _⟩ := s.wf.lst _ _ _ z
        dsimp only
        rw [if_pos z, if_pos (eo.mpr z), e1, show s'.st l' = _ from cont e1 k]
      · dsimp only
        rw [if_neg z, if_neg fun w => z (eo.mp w)]
    | _ => rfl
  have hv : fvOf s' dx (idxF f ks) (.ref p) = fv := by
    unfold fvOf
    dsimp only
    rw [if_pos (show s'.ow p = some (dx, idxF f ks) from if_pos rfl), show s'.st p = _ from stp]
    simp only [Option.bind_some, hc, Option.getD_some]
  refine ⟨s', rfl, fun a => rfl, fun y => ?_⟩
  by_cases h : y = x
  · subst h
    rw [if_pos rfl, vw_mk ((sti _ _ _ _).mpr h1) (show s'.st dx = _ from stx), fvs_set (t := idxF f ks) (fun j e hj => ho dx j e (.inr hj)) hv l (by omega)]
  · rw [if_neg h]
    refine vw_else h1 sti std (fun dy j e hd => ho dy j e (.inl hd)) (fun a => Iff.rfl) (fun a z => ?_) h
    obtain ⟨⟨sh', c', e1, k⟩, _⟩ := s.wf.free a z
    rw [e1]
    exact cont e1 k
end Aim
namespace Aim
open PySem PySem.Spec PyProof.Rows L2
open LamX (TabB Tabs CodeO)
open Stt (cnt sto)
theorem setDs_at {α : Type} {f : Str} {d : α} : ∀ {ks : List Str} {ds : List α}, ks.length = ds.length → ds[idxF f ks]? = some d → setDs f d ks ds = ds
  | [], [], _, h => by simp [idxF] at h
  | k :: ks, x :: xs, l, h => by
    unfold setDs
    unfold idxF at h
    by_cases e : k = f
    · rw [if_pos e] at h ⊢
      simp at h
      rw [h]
    · rw [if_neg e] at h ⊢
      rw [setDs_at (Nat.succ.inj l) (by simpa using h)]
open Classical in
theorem SS.wrC (s : SS) {p : Addr} {sh sh' : Shp} {c c' : List Dat} {fv' : Fv} (sp : s.st p = some (sh, c)) (k0 : Cont? sh) (ck : ContOk p sh' c') (hc : contFv sh' c' = some fv') :
    ∃ s' : SS, s'.n = s.n ∧ (∀ a, s'.st a = if a = p then some (sh', c') else s.st a) ∧
      (∀ {x C dx : Addr} {es : List Dat} {ks : List Str} {ds : List Dat} {f : Str}, s.st x = some (.inst C dx, es) → s.st dx = some (.ins ks, ds) → ks.length = ds.length → ds[idxF f ks]? = some (.ref p) → s.ow p = some (dx, idxF f ks) → ∀ y, vw s' y = if y = x then some (C, ks, setDs f fv' ks (fvsOf s dx 0 ds)) else vw s y) ∧
      (s.fr p → ∀ y, vw s' y = if y = p then some (0, [], [fv']) else vw s y) := by
  let st' : Sto := fun a => if a = p then some (sh', c') else s.st a
  have stp : st' p = some (sh', c') := if_pos rfl
  have sto' : ∀ a, a ≠ p → st' a = s.st a := fun a n => if_neg n
  have n0 : (∀ ks, sh ≠ .ins ks) ∧ ∀ C dx, sh ≠ .inst C dx := ⟨fun ks z => by rw [z] at k0; exact k0, fun C dx z => by rw [z] at k0; exact k0⟩
  have nc : (∀ ks, sh' ≠ .ins ks) ∧ ∀ C dx, sh' ≠ .inst C dx := ⟨fun ks z => by rw [z] at ck; exact ck.1, fun C dx z => by rw [z] at ck; exact ck.1⟩
  have sti : ∀ a D dy us, st' a = some (.inst D dy, us) ↔ s.st a = some (.inst D dy, us) := fun a D dy us => by
    by_cases h0 : a = p
    · rw [h0, stp, sp]
      constructor
      · intro z
        cases z
        exact absurd rfl (nc.2 _ _)
      · intro z
        cases z
        exact absurd rfl (n0.2 _ _)
    · rw [sto' a h0]
  have std : ∀ a ks' us, (st' a = some (.ins ks', us) ↔ s.st a = some (.ins ks', us)) := fun a ks' us => by
    by_cases h0 : a = p
    · rw [h0, stp, sp]
      constructor
      · intro z
        cases z
        exact absurd rfl (nc.1 _)
      · intro z
        cases z
        exact absurd rfl (n0.1 _)
    · rw [sto' a h0]
  have cont : ∀ {a : Addr}, (∃ sh c, s.st a = some (sh, c) ∧ Cont? sh) → ∃ sh c, st' a = some (sh, c) ∧ Cont? sh := fun {a} ⟨sh, c, e, k⟩ => by
    by_cases h0 : a = p
    · rw [h0]
      exact ⟨_, _, stp, ck.1⟩
    · exact ⟨sh, c, by rw [sto' a h0]; exact e, k⟩
  have dd : ∀ {l' : Addr} {w : World} {ks' : List NestedKey} {c' : List Dat}, st' l' = some (.dct w ks', c') → (l' == sysModules) = false ∧ ∃ vds, c' = kDats ks' ++ vds ∧ vds.length = ks'.length := fun {l' w ks' c'} e => by
    by_cases h0 : l' = p
    · rw [h0, stp] at e
      cases e
      rw [h0]
      exact ck.2 _ _ rfl
    · rw [sto' _ h0] at e
      exact ⟨s.wf.sysm _ _ _ _ e, s.wf.keys _ _ _ _ e⟩
  have wf : WfS st' s.ow s.fr := by
    refine ⟨fun a D dy us e => ?_, fun dy ks' us e => ?_, fun a b D D' dy us us' e e' => s.wf.one _ _ _ _ _ _ _ ((sti _ _ _ _).mp e) ((sti _ _ _ _).mp e'), fun l' dy i e => ?_, fun l' z => ⟨cont (s.wf.free l' z).1, (s.wf.free l' z).2⟩, fun dy ks' us e => s.wf.len _ _ _ ((std _ _ _).mp e), fun l' w ks' c0 e => (dd e).2, fun l' w ks' c0 e => (dd e).1⟩
    · obtain ⟨ks', us', e2⟩ := s.wf.dict _ _ _ _ ((sti _ _ _ _).mp e)
      exact ⟨ks', us', (std _ _ _).mpr e2⟩
    · obtain ⟨a, D, us', e2⟩ := s.wf.owner _ _ _ ((std _ _ _).mp e)
      exact ⟨a, D, us', (sti _ _ _ _).mpr e2⟩
    · obtain ⟨e1, ks', us, e2, e3⟩ := s.wf.lst _ _ _ e
      exact ⟨cont e1, ks', us, (std _ _ _).mpr e2, e3⟩
  let s' : SS := ⟨s.n, st', s.ow, s.fr, wf⟩
  have hf : ∀ dy j e, (e = .ref p → s.ow p = some (dy, j) → False) → fvOf s' dy j e = fvOf s dy j e := fun dy j e h => by
    unfold fvOf
    cases e with
    | ref l' =>
      by_cases z : s.ow l' = some (dy, j)
      · have h0 : l' ≠ p := fun w => h (by rw [w]) (by rw [← w]; exact z)
        dsimp only
        rw [if_pos z, if_pos (show s'.ow l' = some (dy, j) from z), show s'.st l' = s.st l' from sto' _ h0]
      · dsimp only
        rw [if_neg z, if_neg (show ¬ s'.ow l' = some (dy, j) from z)]
    | _ => rfl
  have other : ∀ y, y ≠ p → (∀ D dy es, s.st y ≠ some (.inst D dy, es)) → vw s' y = vw s y := fun y h0 ni => by
    by_cases z : s.fr y
    · obtain ⟨⟨sh, c, e, k⟩, _⟩ := s.wf.free y z
      obtain ⟨f, ef⟩ := contFv_of k c
      rw [vw_mkF e z ef, vw_mkF (s := s') (show st' y = _ by rw [sto' y h0]; exact e) z ef]
    · rw [vw_none ni z, vw_none (s := s') (fun C dx es w => ni C dx es ((sti _ _ _ _).mp w)) z]
  refine ⟨s', rfl, fun a => rfl, fun {x C dx es ks ds f} h1 h2 l e1 op y => ?_, fun fp y => ?_⟩
  · have hv : fvOf s' dx (idxF f ks) (.ref p) = fv' := by
      unfold fvOf
      dsimp only
      rw [if_pos (show s'.ow p = some (dx, idxF f ks) from op), show s'.st p = _ from stp]
      simp only [Option.bind_some, hc, Option.getD_some]
    have ho : ∀ dy j e, (dy ≠ dx ∨ j ≠ idxF f ks) → fvOf s' dy j e = fvOf s dy j e := fun dy j e h => hf dy j e fun _ w => by
      rw [op] at w
      cases w
      rcases h with h | h <;> exact absurd rfl h
    by_cases h : y = x
    · subst h
      have q := fvs_set (s := s) (s' := s') (dx := dx) (t := idxF f ks) (f := f) (d := .ref p) (fv := fv') (fun j e hj => ho dx j e (.inr hj)) hv (ks := ks) (ds := ds) (i := 0) l (by omega)
      rw [setDs_at l e1] at q
      rw [if_pos rfl, vw_mk ((sti _ _ _ _).mpr h1) ((std _ _ _).mpr h2), q]
    · rw [if_neg h]
      refine vw_else h1 sti (fun a ks ds _ => std a ks ds) (fun dy j e hd => ho dy j e (.inl hd)) (fun a => Iff.rfl) (fun a z => sto' a fun w => ?_) h
      have := (s.wf.free a z).2
      rw [w, op] at this
      cases this
  · by_cases h : y = p
    · rw [if_pos h, h]
      exact vw_mkF (s := s') stp fp hc
    · rw [if_neg h]
      have no : ∀ dy j, s.ow p = some (dy, j) → False := fun dy j w => by
        rw [(s.wf.free p fp).2] at w
        cases w
      cases e : s.st y with
      | none => exact other y h fun D dy es w => by rw [e] at w; cases w
      | some q =>
        obtain ⟨sh2, us⟩ := q
        cases sh2 with
        | inst D dy =>
          obtain ⟨ks, ds, ed⟩ := s.wf.dict _ _ _ _ e
          rw [vw_mk e ed, vw_mk (s := s') ((sti _ _ _ _).mpr e) ((std _ _ _).mpr ed), fvs_same fun j e' _ => hf dy j e' fun _ w => no _ _ w]
        | ins ks => exact other y h fun D dy es w => by rw [e] at w; cases w
        | lst => exact other y h fun D dy es w => by rw [e] at w; cases w
        | dct w ks => exact other y h fun D dy es w => by rw [e] at w; cases w
theorem SS.ext_ex (s : SS) {st' : Sto} {fr' : Addr → Prop} (wf : WfS st' s.ow fr') (old : ∀ {a q}, s.st a = some q → st' a = some q) (fo : ∀ {a q}, s.st a = some q → (fr' a ↔ s.fr a)) {y : Addr} (hy : s.st y = none → vw ⟨s.n, st', s.ow, fr', wf⟩ y = none) : vw ⟨s.n, st', s.ow, fr', wf⟩ y = vw s y := by
  have hf : ∀ dy j e, fvOf ⟨s.n, st', s.ow, fr', wf⟩ dy j e = fvOf s dy j e := fun dy j e => by
    unfold fvOf
    cases e with
    | ref l' =>
      by_cases z : s.ow l' = some (dy, j)
      · obtain ⟨⟨sh, c0, e1, _⟩, _⟩ := s.wf.lst _ _ _ z
        dsimp only
        rw [if_pos z, if_pos z, e1, old e1]
      · dsimp only
        rw [if_neg z, if_neg z]
    | _ => rfl
  cases e : s.st y with
  | none => rw [hy e, vw_none (s := s) (fun C dx es z => by rw [e] at z; cases z) (fr_st e)]
  | some q =>
    obtain ⟨sh, us⟩ := q
    have oth : (∀ D dy es, (sh, us) ≠ (Shp.inst D dy, es)) → vw ⟨s.n, st', s.ow, fr', wf⟩ y = vw s y := fun ni => by
      have ns : ∀ D dy es, s.st y ≠ some (.inst D dy, es) := fun D dy es w => by rw [e] at w; exact ni _ _ _ (Option.some.inj w)
      by_cases z : s.fr y
      · obtain ⟨⟨sh, c, e, k⟩, _⟩ := s.wf.free y z
        obtain ⟨f, ef⟩ := contFv_of k c
        rw [vw_mkF e z ef, vw_mkF (s := ⟨s.n, st', s.ow, fr', wf⟩) (old e) ((fo e).mpr z) ef]
      · rw [vw_none ns z, vw_none (s := ⟨s.n, st', s.ow, fr', wf⟩) (fun C dx es w => by
          have w : st' y = some (.inst C dx, es) := w
          rw [old e] at w; exact ni _ _ _ (Option.some.inj w)) fun w => z ((fo e).mp w)]
    cases sh with
    | inst D dy =>
      obtain ⟨ks, ds, ed⟩ := s.wf.dict _ _ _ _ e
      rw [vw_mk e ed, vw_mk (s := ⟨s.n, st', s.ow, fr', wf⟩) (old e) (old ed), fvs_same fun j e' _ => hf dy j e']
    | ins ks => exact oth fun D dy es w => nomatch w
    | lst => exact oth fun D dy es w => nomatch w
    | dct w ks => exact oth fun D dy es w => nomatch w
open Classical in
theorem SS.newF_ex (s : SS) {p : Addr} {sh : Shp} {c : List Dat} {fv : Fv} (ck : ContOk p sh c) (hc : contFv sh c = some fv) (hp : s.st p = none) :
    ∃ s' : SS, s'.n = s.n ∧ (∀ a, s'.st a = if a = p then some (sh, c) else s.st a) ∧ ∀ y, vw s' y = if y = p then some (0, [], [fv]) else vw s y := by
  let st' : Sto := fun a => if a = p then some (sh, c) else s.st a
  let fr' : Addr → Prop := fun a => a = p ∨ s.fr a
  have stp : st' p = some (sh, c) := if_pos rfl
  have np : ∀ {a : Addr} {q : Shp × List Dat}, s.st a = some q → a ≠ p := fun e z => by rw [z, hp] at e; cases e
  have old : ∀ {a : Addr} {q : Shp × List Dat}, s.st a = some q → st' a = some q := fun {a q} e => by
    show (if a = p then _ else _) = _
    rw [if_neg (np e)]
    exact e
  have back : ∀ {a : Addr} {q : Shp × List Dat}, a ≠ p → st' a = some q → s.st a = some q := fun {a q} n e => by
    have e : (if a = p then some (sh, c) else s.st a) = some q := e
    rw [if_neg n] at e
    exact e
  have op : s.ow p = none := by
    cases z : s.ow p with
    | none => rfl
    | some q =>
      obtain ⟨⟨sh, c, e1, _⟩, _⟩ := s.wf.lst _ _ _ z
      rw [hp] at e1
      cases e1
  have nc : (∀ ks, sh ≠ .ins ks) ∧ ∀ C dx, sh ≠ .inst C dx := ⟨fun ks z => by rw [z] at ck; exact ck.1, fun C dx z => by rw [z] at ck; exact ck.1⟩
  have backI : ∀ {a D dy : Addr} {us : List Dat}, st' a = some (.inst D dy, us) → s.st a = some (.inst D dy, us) := fun {a D dy us} e => back (fun z => by rw [z, stp] at e; cases e; exact nc.2 _ _ rfl) e
  have backD : ∀ {a : Addr} {ks : List Str} {us : List Dat}, st' a = some (.ins ks, us) → s.st a = some (.ins ks, us) := fun {a ks us} e => back (fun z => by rw [z, stp] at e; cases e; exact nc.1 _ rfl) e
  have dd : ∀ {l' : Addr} {w : World} {ks' : List NestedKey} {c' : List Dat}, st' l' = some (.dct w ks', c') → (l' == sysModules) = false ∧ ∃ vds, c' = kDats ks' ++ vds ∧ vds.length = ks'.length := fun {l' w ks' c'} e => by
    by_cases h0 : l' = p
    · rw [h0, stp] at e
      cases e
      rw [h0]
      exact ck.2 _ _ rfl
    · exact ⟨s.wf.sysm _ _ _ _ (back h0 e), s.wf.keys _ _ _ _ (back h0 e)⟩
  have wf : WfS st' s.ow fr' := by
    refine ⟨fun a D dy us e => ?_, fun dy ks' us e => ?_, fun a b D D' dy us us' e e' => s.wf.one _ _ _ _ _ _ _ (backI e) (backI e'), fun l' dy i e => ?_, fun l' z => ?_, fun dy ks' us e => s.wf.len _ _ _ (backD e), fun l' w ks' c0 e => (dd e).2, fun l' w ks' c0 e => (dd e).1⟩
    · obtain ⟨ks', us', e2⟩ := s.wf.dict _ _ _ _ (backI e)
      exact ⟨ks', us', old e2⟩
    · obtain ⟨a, D, us', e2⟩ := s.wf.owner _ _ _ (backD e)
      exact ⟨a, D, us', old e2⟩
    · obtain ⟨⟨sh', c', e1, k⟩, ks', us, e2, e3⟩ := s.wf.lst _ _ _ e
      exact ⟨⟨sh', c', old e1, k⟩, ks', us, old e2, e3⟩
    · rcases z with rfl | z
      · exact ⟨⟨_, _, stp, ck.1⟩, op⟩
      · obtain ⟨⟨sh', c', e1, k⟩, e2⟩ := s.wf.free l' z
        exact ⟨⟨sh', c', old e1, k⟩, e2⟩
  refine ⟨⟨s.n, st', s.ow, fr', wf⟩, rfl, fun a => rfl, fun y => ?_⟩
  by_cases h : y = p
  · rw [if_pos h, h]
    exact vw_mkF (s := ⟨s.n, st', s.ow, fr', wf⟩) stp (.inl rfl) hc
  · rw [if_neg h]
    refine s.ext_ex wf (fun e => old e) (fun {a q} e => ⟨fun z => z.elim (fun z => absurd z (np e)) id, .inr⟩) fun e => vw_none (s := ⟨s.n, st', s.ow, fr', wf⟩) (fun C dx es z => ?_) fun z => ?_
    · have z := back h z
      rw [e] at z
      cases z
    · exact z.elim h fun z => fr_st e z
end Aim
namespace Aim
open PySem PySem.Spec PyProof.Rows L2
open LamX (TabB Tabs CodeO)
open Stt (cnt sto)
section
variable {X : Cx} {H : Hp} {C dx x : Addr} {ks : List Str} {xs : List V}
end
section
variable {K : PySem.W.Frag} {TT : List (Addr × Str)} {s s' : SS} {H H' : Hp} {ρ : List Sl} {σ : L2.St}
end
section
variable {K : PySem.W.Frag} {TT : List (Addr × Str)} {s m s' : SS} {H H1 H' : Hp} {ρ : List Sl} {σ : L2.St}
end
section
variable {X : Cx} {TT : List (Addr × Str)} {E : XK} {i : Nat} {C : Addr} {f : Str} {o value ix : Expr} {fe fi : GDE SS} {fl : GDA SS} {pos pos' pos'' : Pos}
end
end Aim
namespace Aim
open PySem PySem.Spec PyProof.Rows L2
open LamX (TabB Tabs CodeO)
open Stt (cnt sto)
variable {S : Type} [Stt S]
section
variable {X : Cx}
end
section
variable {X : Cx} {TT : List (Addr × Str)} {E : XK} {fo fk fd : GDE S} {o e f : Expr} {apos cpos pos : Pos}
end
section
variable {X : Cx} {k : Nat} {C p g a dx : Addr} {fs : List (Str × V)} {f : Str} {sp : Sp} {E : XK} {e : Expr} {pos : Pos} {ta : TE}
end
section
variable {X : Cx} {TT : List (Addr × Str)} {E : XK} {C : Addr} {nm : Str} {e : Expr} {pos : Pos} {k j : Nat} {sp : GDSp S} {fe : GDE S}
end
end Aim
namespace Aim
open PySem PySem.Spec PyProof.Rows L2
open LamX (TabB Tabs CodeO)
open Stt (cnt sto)
variable {S : Type} [Stt S]
section
variable {X : Cx} {TT : List (Addr × Str)} {E : XK} {k j : Nat} {C : Addr} {x : Str} {sp : GDSp S} {e : Expr} {es : List Expr} {fr : GDA S} {p pos : Pos}
structure DfK' (P : Program) (w : World) (K : PySem.W.Frag) (mg : Str → Option Value) (base : Heap) (TT : List (Addr × Str)) (k : Nat) (C : Addr) (n : Nat) (ks : List Str) (gD : List Dat → List Dat → List Dat) (sp : GDSp S) : Prop where
  ex : ∃ (f : Addr) (fd : FuncData) (ps : List Str) (g : List Value → List Value → List Value) (gV : List V → List V → List V), Rn P w K mg base false k f fd ps (LSpI K TT C sp) ∧ Mk K C f ∧
    (∀ (s : Shared) (x : Addr) (us ws : List Value), K.In s.heap → us.length = n → ws.length = ks.length → BindsTo s fd ⟨.ref x :: us, ks.zip ws⟩ (ps.zip (Value.ref x :: g us ws))) ∧
    (∀ {vs : List V} {us : List Value} {zs : List V} {ws : List Value}, Vals vs us → Vals zs ws → vs.length = n → zs.length = ks.length → Vals (gV vs zs) (g us ws)) ∧
    ∀ (m : S) (H : Hp) (vs zs : List V) (ds es : List Dat), SeesL K m H vs ds → SeesL K m H zs es → ds.length = n → es.length = ks.length → SeesL K m H (gV vs zs) (gD ds es)
end
section
variable {P : Program} {w : World} {K : PySem.W.Frag} {mg : Str → Option Value} {base : Heap} {TT : List (Addr × Str)} {k : Nat} {sp : GDSp S} {N ps : List Str} {st : Stmt} {qual : Str} {C : Addr} {dvs : List V}
structure MadeD (P : Program) (w : World) (K : PySem.W.Frag) (mg : Str → Option Value) (base : Heap) (TT : List (Addr × Str)) (k : Nat) (C : Addr) (qual : Str) (st : Stmt) (dvs : List V) (ps : List Str) (sp : GDSp S) : Prop where
  ex : ∃ (f : Addr) (fd : FuncData), FunD K "__init__" qual (defArgs st) (defBody st) (defScope st) dvs [] f fd ∧ Mk K C f ∧ Rn P w K mg base false k f fd ps (LSpI K TT C sp)
theorem MadeD.pos {dds : List Dat} (d : MadeD P w K mg base TT k C qual st dvs ps sp) (n j : Nat) (hd : dvs ≠ []) (hn : n + 1 + (dvs.length - j) = ps.length) (hs : ∀ (m : S) (H : Hp), SeesL K m H dvs dds)
    (h : ∀ (T : Addr) (kV doc pm : Value) (an : Option Addr) (cdv ct : Value) (us its : List Value), us.length = n + 1 → its.length = dvs.length →
      ∃ k, bindArgs (PySem.W.fnOf "__init__" qual (defArgs st) (defBody st) (defScope st) (.ref T) kV doc pm an cdv ct) ⟨us, []⟩ = seqItems? (.ref T) >>= k ∧ k (some its.toArray) = pure (ps.zip (us ++ its.drop j))) : DfK' P w K mg base TT k C n [] (fun ds _ => ds ++ dds.drop j) sp := by
  obtain ⟨f, fd, F, M, R⟩ := d.ex
  obtain ⟨ds, rv, B⟩ := F.binds1 (n + 1) j hd hn h
  have lds : ds.length = dvs.length - j := by rw [← rv.length, List.length_drop]
  refine ⟨f, fd, ps, fun us _ => us ++ ds, fun vs _ => vs ++ dvs.drop j, R, M, fun s x us ws X lu lw => ?_, fun r _ _ _ => r.append rv, fun m H vs zs es es' s1 _ _ _ => s1.append ((hs m H).drop j)⟩
  exact B s (.ref x :: us) X (by rw [List.length_append, List.length_cons, lu, lds]; exact hn)
end
end Aim
namespace Aim
open PySem PySem.Spec PyProof.Rows L2
open LamX (TabB Tabs CodeO)
open Stt (cnt sto)
section
variable {S : Type} [Stt S] {K : PySem.W.Frag} {TT : List (Addr × Str)} {E : XK}
theorem spO_at {sp : GDSp S} {n m : S} {H H1 : Hp} {vs : List V} {ds : List Dat} {P : Dat → S → Prop} {R : GRX S} {Q : VK} (x : ExE K TT E n H R) (st : StoOk K n H) (e : Fre K TT n H m H1) (s : SeesL K m H1 vs ds) (q : sp ds m P R) (k : ∀ d j v H', P d j → Fre K TT n H j H' → Sees K j H' v d → Q v H') : spO (LSp K TT sp) vs H1 Q E :=
  ⟨S, _, m, ds, m, P, R, s.mono (TT := TT) Fra.cut, q, fun d j v G p g t gone => k d j v _ p (e.trans (.glue g (e.st st) gone)) (t.grow (grow_glue gone)), ⟨(Fra.cut (K := K) (n := m)).tab (e.tab x.tab), fun C d j dd v G p g hd t gone => x.ex C d j dd v _ p (e.trans (Fre.glue g (e.st st) gone)) (grow_glue gone _ _ hd) (t.grow (grow_glue gone))⟩, (Fra.cut (TT := TT)).st (e.st st)⟩
theorem spO_of {sp : GDSp S} {vs : List V} {H : Hp} {Q : VK} (h : LSp K TT sp vs H Q E) : spO (LSp K TT sp) vs H Q E := by
  obtain ⟨ds, n, P, R, s, q, k, x, st⟩ := h
  exact spO_at x.toE st .refl s q fun d j v H' p e t => k d j v H' p e.toFra t
end
def frzSp (sp : DSp) : GDSp SS := fun ds s P R => ∃ ds', FrzL s ds ds' ∧ sp ds' s.n (fun d m => calmS (offS s) d ∧ P d (s.put m)) (fun C d m => calmS (offS s) d ∧ R C d (s.put m))
section
variable {P : Program} {w : World} {K : PySem.W.Frag} {mg : Str → Option Value} {base : Heap} {TT : List (Addr × Str)} {k : Nat} {sp : DSp} {vs : List V} {H : Hp} {Q : VK} {E : XK}
theorem lsp_len (h : LSp K TT (frzSp sp) vs H Q E) (hp : Heap) : ∃ s, LSp (S := Nat) K TT sp vs (rt (frF K s H hp) H) (fun _ _ => True) (fun _ _ _ => True) := by
  obtain ⟨ds, s, P, R, se, ⟨ds', fz, q⟩, kQ, kE, kS⟩ := h
  exact ⟨s, ds', s.n, _, _, se.frz kS fz, q, fun d m v G p e t => trivial, ⟨tabs_frz kS kE.tab, fun C d m dd v G p e hd t => trivial⟩, .nat⟩
theorem lsp_frz {hp : Heap} (hok : HOk P w H hp) (h : LSp K TT (frzSp sp) vs H Q E) : ∃ s, StoOk K s H ∧ LSp (S := Nat) K TT sp vs (rt (frF K s H hp) H) (fun v G => News (frF K s H hp) G ∧ Q v (rt (frF K s H hp).sw G)) (fun c d G => News (frF K s H hp) G ∧ E c d (rt (frF K s H hp).sw G)) := by
  obtain ⟨ds, s, P, R, se, ⟨ds', fz, q⟩, kQ, kE, kS⟩ := h
  refine ⟨s, kS, ds', s.n, _, _, se.frz kS fz, q, fun d m v G p e t => ?_, ⟨tabs_frz kS kE.tab, fun C d m dd v G p e hd t => ?_⟩, .nat⟩
  · have nw := news_fra kS hok e.toFrb
    exact ⟨nw, kQ d _ v _ p.2 (.thaw kS hok e) (t.thaw kS hok nw p.1)⟩
  · have nw := news_fra kS hok e.toFrb
    exact ⟨nw, kE.ex C d _ dd v _ p.2 (.thaw kS hok e) (keepS kS hok nw hd (fun _ _ _ z => nomatch z) (fun _ z => nomatch z) (fun _ z => nomatch z) (noFix_soft fun _ z => nomatch z)) (t.thaw kS hok nw p.1)⟩
theorem fnR_frz {f : Addr} (F : FnR P w K mg base (L2.CX P w) k f (spO (LSp (S := Nat) K TT sp))) : FnR P w K mg base (L2.CX P w) k f (spO (LSp (S := SS) K TT (frzSp sp))) := by
  intro A outer s_ H us vs Q E hr e0 r h
  obtain ⟨U, iU, n, h⟩ := h
  have e1 := env0_cutO (n := n) e0
  obtain ⟨s, kS, h2⟩ := lsp_frz e1.hok h
  have ok := frF_ok kS e1.hok
  have e2 := ok.env0 e1
  refine codeAny_mono (F A outer s_ _ us vs _ _ hr e2 r (spO_of h2)) fun y s' hq => ?_
  match y, hq with
  | .error e, hq => exact cx_glueO e0.hok e0.frf (cx_rt ok (fun G h hG nw => frF_back kS e1.hok hG nw) hq)
  | .ok (.ret u), hq => exact ce_glueO e0.hok e0.frf (ce_rt ok (fun G h hG nw => frF_back kS e1.hok hG nw) hq)
theorem MdD.frz {C : Addr} {nm : Str} (d : MdD (S := Nat) P w K mg base TT k C nm sp) : MdD (S := SS) P w K mg base TT k C nm (frzSp sp) := by
  obtain ⟨f, F, M⟩ := d.ex
  exact ⟨f, fnR_frz F, M⟩
theorem Df.frz {G : Bool} {x : Str} (d : Df P w K mg base G k x (LSp (S := Nat) K TT sp)) : Df P w K mg base G k x (LSp (S := SS) K TT (frzSp sp)) := by
  obtain ⟨f, fd, ps, F, hm, hk, hb⟩ := d.ex
  refine ⟨f, fd, ps, ⟨fun vs H Q E h => ?_, fun {A fr s_ H args us vs Q E} hr hg e0 b r h => ?_⟩, hm, hk, hb⟩
  · obtain ⟨s, h2⟩ := lsp_len h default
    exact F.len _ _ _ _ h2
  · obtain ⟨s, kS, h2⟩ := lsp_frz e0.hok h
    have ok := frF_ok kS e0.hok
    refine codeAny_mono (F.run hr hg (ok.env0 e0) b r h2) fun y s' hq => ?_
    match y, hq with
    | .error e, hq => exact cx_rt ok (fun G h hG nw => frF_back kS e0.hok hG nw) hq
    | .ok (.ret u), hq => exact ce_rt ok (fun G h hG nw => frF_back kS e0.hok hG nw) hq
end
section
variable {X : Cx} {TT : List (Addr × Str)} {E : XK} {k j : Nat} {C : Addr} {x : Str} {sp : GDSp SS} {e : Expr} {es : List Expr} {fr : GDA SS} {p pos : Pos}
end
section
variable {S : Type} [Stt S] {X : Cx} {TT : List (Addr × Str)} {E : XK} {k j i : Nat} {C f : Addr} {sp : GDSp S} {fe fo fi : GDE S} {st : Stmt}
end
end Aim
namespace Aim
open PySem PySem.Spec PyProof.Rows L2
open LamX (TabB Tabs CodeO)
open Stt (cnt sto)
section
variable {α β : Type}
def putN (ks : List NestedKey) (k : NestedKey) : List NestedKey := if k ∈ ks then ks else ks ++ [k]
def dropN (ks : List NestedKey) (k : NestedKey) : List NestedKey := ks.filter fun j => decide (j ≠ k)
theorem putN_mem {ks : List NestedKey} {k j : NestedKey} : j ∈ putN ks k ↔ j = k ∨ j ∈ ks := by
  unfold putN
  split
  · rename_i h
    exact ⟨.inr, fun z => z.elim (fun e => e ▸ h) id⟩
  · rw [List.mem_append, List.mem_singleton, or_comm]
end
section
variable {P : Program} {w : World} {h : Heap} {a : Addr}
end
end Aim
namespace Aim
open PySem PySem.Spec PyProof.Rows L2
open LamX (TabB Tabs CodeO)
open Stt (cnt sto)
variable {S : Type} [Stt S]
section
variable {X : Cx} {TT : List (Addr × Str)} {E : XK} {fo fk : GDE S} {o e : Expr} {apos cpos pos : Pos}
end
end Aim
namespace Aim
open PySem PySem.Spec PyProof.Rows L2
open LamX (TabB Tabs CodeO)
open Stt (cnt sto)
section
variable {U : Type} [Stt U] {X : Cx} {pins : List (Addr × Obj)} {σ : L2.St} {H : Hp} {s : Shared} {n : U}
def DctN (X : Cx) (s : Shared) (a : Addr) (u : Value) (r : Option Value) : Prop :=
  (a == sysModules) = false ∧ ((∃ kvs kk, s.heap.DictOf (mixKind X.prog X.w) a kvs ∧ (mixKind X.prog X.w).is kk u = true ∧ r = valueAt kvs kk) ∨
    ∃ xs kk b, u = .ref b ∧ s.heap.DictOfH (nestedKind X.prog X.w) a xs ∧ (nestedKind X.prog X.w).is s.heap kk b ∧ r = (atKey xs kk).map (·.2))
end
section
variable {X : Cx} {s : Shared} {a : Addr} {u r : Value} {o : Option Value} {A : Around} {E : Value → Shared → Prop}
theorem DctN.typeIs (g : DctN X s a u o) : s.TypeIs (.ref a) "dict" := by
  rcases g with ⟨_, ⟨kvs, k, d, _, _⟩ | ⟨xs, k, b, _, d, _, _⟩⟩
  · exact d.typeIs
  · exact d.typeIs
end
section
variable {S : Type} [Stt S] {X : Cx} {TT : List (Addr × Str)} {E : XK} {fo fk fd : GDE S} {o e f : Expr} {apos cpos pos : Pos}
end
end Aim
namespace Aim
open PySem PySem.Spec PyProof.Rows L2
open LamX (TabB Tabs CodeO)
open Stt (cnt sto)
variable {S : Type} [Stt S]
section
variable {X : Cx} {TT : List (Addr × Str)} {E : XK} {k j : Nat} {C : Addr} {m : Str} {sp : GDSp S} {o e : Expr} {es : List Expr} {fo : GDE S} {fr : GDA S} {apos pos : Pos} {pl : Sem Bool}
end
structure MdR (P : Program) (w : World) (K : PySem.W.Frag) (mg : Str → Option Value) (base : Heap) (TT : List (Addr × Str)) (k : Nat) (C : Addr) (nm qual : Str) (st : Stmt) (ps : List Str) (sp : GDSp S) : Prop where
  ex : ∃ (f : Addr) (kV doc pm : Value) (an : Option Addr) (cdv ct : Value), Rn P w K mg base false k f (PySem.W.fnOf nm qual (defArgs st) (defBody st) (defScope st) .none kV doc pm an cdv ct) ps (LSp K TT sp) ∧ Meth K C nm f
section
variable {P : Program} {w : World} {K : PySem.W.Frag} {mg : Str → Option Value} {base : Heap} {TT : List (Addr × Str)} {k : Nat} {sp : GDSp S} {N ps : List Str} {st : Stmt} {C : Addr} {nm qual : Str}
theorem MdR.pos (d : MdR P w K mg base TT k C nm qual st ps sp) (hb : ∀ (kV doc pm : Value) (an : Option Addr) (cdv ct : Value) (us : List Value), us.length = ps.length → bindArgs (PySem.W.fnOf nm qual (defArgs st) (defBody st) (defScope st) .none kV doc pm an cdv ct) ⟨us, []⟩ = pure (ps.zip us)) : MdD P w K mg base TT k C nm sp := by
  obtain ⟨f, kV, doc, pm, an, cdv, ct, F, M⟩ := d.ex
  exact ⟨f, fnR_O F (.all (hb kV doc pm an cdv ct)), M⟩
end
section
variable {X : Cx} {TT : List (Addr × Str)} {E : XK} {k j : Nat} {C : Addr} {m : Str} {sp : GDSp S} {o : Expr} {ks : List Str} {kws : List Keyword} {fo : GDE S} {fr : GDA S} {apos pos : Pos} {pl : Sem Bool}
end
structure MadeS (P : Program) (w : World) (K : PySem.W.Frag) (mg : Str → Option Value) (base : Heap) (TT : List (Addr × Str)) (k : Nat) (C : Addr) (qual : Str) (st : Stmt) (dvs : List V) (ps : List Str) (sp : GDSp S) : Prop where
  ex : ∃ (f : Addr) (fd : FuncData), FunD K "__init__" qual (defArgs st) (defBody st) (defScope st) dvs [] f fd ∧ Mk K C f ∧ Rn P w K mg base false k f fd ps (LSp K TT sp)
section
variable {P : Program} {w : World} {K : PySem.W.Frag} {mg : Str → Option Value} {base : Heap} {TT : List (Addr × Str)} {k : Nat} {sp : GDSp S} {N ps : List Str} {st : Stmt} {qual : Str} {C : Addr} {dvs : List V}
theorem MadeS.pos (d : MadeS P w K mg base TT k C qual st dvs ps sp) (hd : dvs ≠ [])
    (h : ∀ (T : Addr) (kV doc pm : Value) (an : Option Addr) (cdv ct : Value) (us its : List Value), us.length = ps.length → its.length = dvs.length →
      ∃ k, bindArgs (PySem.W.fnOf "__init__" qual (defArgs st) (defBody st) (defScope st) (.ref T) kV doc pm an cdv ct) ⟨us, []⟩ = seqItems? (.ref T) >>= k ∧ k (some its.toArray) = pure (ps.zip us)) : MdD P w K mg base TT k C "__init__" sp ∧ ∃ f, Mk K C f := by
  obtain ⟨f, fd, F, M, R⟩ := d.ex
  obtain ⟨ds, rv, B⟩ := F.binds1 ps.length dvs.length hd (show ps.length + (dvs.length - dvs.length) = ps.length by omega) fun T kV doc pm an cdv ct us its h1 h2 => by
    obtain ⟨k, e1, e2⟩ := h T kV doc pm an cdv ct us its h1 h2
    refine ⟨k, e1, ?_⟩
    rw [List.drop_of_length_le (by omega), List.append_nil]
    exact e2
  have e : ds = [] := by
    rw [List.drop_of_length_le (Nat.le_refl _)] at rv
    cases rv
    rfl
  subst e
  exact ⟨⟨f, fnR_O R B, M.init, M.fn, F.kp⟩, f, M⟩
end
end Aim
namespace Aim
open PySem PySem.Spec PyProof.Rows L2
open LamX (TabB Tabs CodeO)
open Stt (cnt sto)
theorem KOk.put {k : NestedKey} {ks : List NestedKey} (h : KOk (k :: ks)) : KOk (putN ks k) :=
  ⟨fun j hj => h.deep j (by rcases putN_mem.mp hj with e | e <;> simp [e]), h.uni.imp (fun f j hj => f j (by rcases putN_mem.mp hj with e | e <;> simp [e])) fun f j hj => f j (by rcases putN_mem.mp hj with e | e <;> simp [e])⟩
section
variable {U : Type} [Stt U] {X : Cx} {pins : List (Addr × Obj)} {σ : L2.St} {H : Hp} {s : Shared} {n : U} {A : Around} {E : Value → Shared → Prop}
theorem dropN_mem {k j : NestedKey} {ks : List NestedKey} (h : j ∈ dropN ks k) : j ∈ ks := (List.mem_filter.mp h).1
theorem KOk.drop {k : NestedKey} {ks : List NestedKey} (h : KOk ks) : KOk (dropN ks k) := ⟨fun j hj => h.deep j (dropN_mem hj), h.uni.imp (fun f j hj => f j (dropN_mem hj)) fun f j hj => f j (dropN_mem hj)⟩
end
theorem Ents.two {w : World} {ks : List NestedKey} {ys zs : List V} {o : Obj} (d : DctObj w ks ys zs o) : ys.length = ks.length ∧ zs.length = ks.length := by
  obtain ⟨es, ep, _, en⟩ := d.ents
  exact ⟨en.len.1, en.len.2.1⟩
theorem DctObj.some {w : World} : ∀ {ks : List NestedKey} {ys zs : List V}, ys.length = ks.length → zs.length = ks.length → ks.Nodup → ks.length ≤ sizeLine → KOk ks → ∃ o, DctObj w ks ys zs o := fun {ks ys zs} l1 l2 nd le ok => by
  have key : ∀ {ks : List NestedKey} {ys zs : List V}, ys.length = ks.length → zs.length = ks.length → ∃ es, Ents w ks ys zs es := by
    intro ks
    induction ks with
    | nil =>
      intro ys zs l1 l2
      cases ys with
      | nil =>
        cases zs with
        | nil => exact ⟨[], .nil⟩
        | cons _ _ => cases l2
      | cons _ _ => cases l1
    | cons k ks ih =>
      intro ys zs l1 l2
      cases ys with
      | nil => cases l1
      | cons y ys =>
        cases zs with
        | nil => cases l2
        | cons z zs =>
          obtain ⟨es, en⟩ := ih (Nat.succ.inj l1) (Nat.succ.inj l2)
          obtain ⟨us, hu⟩ := own_vals [y, z]
          obtain ⟨u1, u2, rfl, r1, r2⟩ := vals2 hu
          exact ⟨⟨k.hash w, u1, u2⟩ :: es, .cons rfl r1 r2 en⟩
  obtain ⟨es, en⟩ := key l1 l2
  exact ⟨{ cls := .type "dict", data := .dict es.toArray 0 }, ⟨rfl, rfl, rfl⟩, nd, le, ok, _, _, rfl, by simpa using en⟩
section
variable {X : Cx} {TT : List (Addr × Str)} {E : XK} {fe fo fi : GDE SS} {st : Stmt}
end
end Aim
namespace Aim
open PySem PySem.Spec PyProof.Rows L2
open LamX (TabB Tabs CodeO)
open Stt (cnt sto)
section
variable {S : Type} [Stt S]
end
section
variable {K : PySem.W.Frag} {TT : List (Addr × Str)}
end
section
variable {X : Cx} {TT : List (Addr × Str)} {E : XK} {e : Expr}
end
section
variable {S : Type} [Stt S] {X : Cx} {TT : List (Addr × Str)} {E : XK} {e : Expr}
end
section
variable {S : Type} [Stt S] {X : Cx} {TT : List (Addr × Str)} {E : XK}
end
end Aim
namespace Aim
open PySem PySem.Spec PyProof.Rows L2
open LamX (TabB Tabs CodeO)
open Stt (cnt sto)
section
variable {S : Type} [Stt S] {X : Cx} {TT : List (Addr × Str)} {E : XK} {e : Expr}
end
section
variable {X : Cx} {TT : List (Addr × Str)} {E : XK} {e : Expr}
end
section
variable {S : Type} [Stt S] {X : Cx} {TT : List (Addr × Str)} {E : XK} {e : Expr} {fe : GDE S} {C : Addr} {k j : Nat} {sp : GDSp S} {p pos : Pos}
end
end Aim
namespace Aim
open PySem PySem.Spec PyProof.Rows PyProof.V L2
open PySem.W PySem.Calls Builtin
section
open PySem.W.KSb
variable {M : Model} {A : Around} {E : Value → Shared → Prop} {s : Shared} {x : PySem.Str} {id : String} {self : Value}
theorem fold_encA (l : List Nat) (acc : Array UInt8) : l.foldl (fun acc y => acc ++ (_codecs.asciiCodec.bytesOf y).toArray) acc = acc ++ (l.map Nat.toUInt8).toArray := by
  induction l generalizing acc with
  | nil =>
    show acc = acc ++ #[]
    rw [Array.append_empty]
  | cons c r ih =>
    rw [List.foldl_cons, ih, List.map_cons]
    apply Array.toList_inj.mp
    simp [_codecs.asciiCodec]
theorem no_badA {c : Nat} (h : c < 128) : _codecs.asciiCodec.bad c = false := decide_eq_false (by omega)
theorem no_findA (h : Asc x) : x.cps.findIdx? _codecs.asciiCodec.bad = none := by
  rw [Array.findIdx?_eq_none_iff]
  intro c hc
  rw [no_badA (h c (Array.mem_toList_iff.mpr hc))]
theorem wp_encA {Q : Array UInt8 → Shared → Prop} (ha : Asc x) (hz : x.length ≤ 16777216) (h : Q (enc x) s) : wpAny M A (_codecs.encodeNarrow id _codecs.asciiCodec none self x) Q E s := by
  have hz0 : ¬ ((#[] : Array UInt8).size > sizeLine) := by
    rw [sizeLine_eq]
    exact Nat.not_lt.mpr (Nat.zero_le _)
  have hz1 : ¬ ((enc x).size > sizeLine) := by
    rw [enc_size, sizeLine_eq]
    omega
  have hout : ((x.cps.extract 0 x.cps.size).extract 0 x.cps.size).foldl (fun acc y => acc ++ (_codecs.asciiCodec.bytesOf y).toArray) #[] = enc x := by
    rw [whole_extract, whole_extract, ← Array.foldl_toList, fold_encA x.cps.toList #[], Array.empty_append]
    rfl
  unfold _codecs.encodeNarrow
  refine wpAny_bind ?_
  rw [KPc.range_list]
  cases hn : x.length with
  | zero =>
    show wpAny M A (forIn ([] : List Nat) _ _) _ E s
    rw [List.forIn_nil]
    refine wpAny_pure (wpAny_pure ?_)
    have e : enc x = #[] := by
      apply Array.eq_empty_of_size_eq_zero
      rw [enc_size, hn]
    rw [e] at h
    exact h
  | succ n =>
    have h0 : 0 < x.cps.size := by
      show 0 < x.length
      omega
    have hget : x.cps[0]? = some (x.cps[0]'h0) := Array.getElem?_eq_getElem h0
    have hc : x.cps[0]'h0 < 128 := ha _ (Array.mem_toList_iff.mpr (Array.getElem_mem h0))
    have hbad : _codecs.asciiCodec.bad (x.cps[0]'h0) = false := no_badA hc
    have hclean : (((x.cps.extract 0 x.cps.size).findIdx? _codecs.asciiCodec.bad).getD (x.cps.extract 0 x.cps.size).size) = x.cps.size := by
      rw [whole_extract, no_findA ha]
      rfl
    rw [List.range'_succ]
    refine KPc.turn ?_
    refine wpAny_ite (KBy.ite_no hz0 ?_)
    try dsimp only
    rw [hget]
    try dsimp only
    refine wpAny_ite (KBc.ite_yes (by rw [hbad]; rfl) ?_)
    rw [hclean, hout]
    try dsimp only
    refine wpAny_pure ?_
    cases n with
    | zero =>
      show wpAny M A (forIn ([] : List Nat) _ _) _ E s
      rw [List.forIn_nil]
      exact wpAny_pure (wpAny_pure h)
    | succ m =>
      rw [List.range'_succ]
      refine KPc.turn ?_
      refine wpAny_ite (KBy.ite_no hz1 ?_)
      try dsimp only
      have hend : x.cps[0 + x.cps.size]? = none := Array.getElem?_eq_none (by omega)
      rw [hend]
      try dsimp only
      exact wpAny_pure (wpAny_pure h)
open Builtin._codecs in
theorem encA_road (id : String) (self : Value) (x : PySem.Str) (errors : Option PySem.Str) : encodeRoad id self x (PySem.Str.ofString "ascii") errors = (do mkBytes (← encodeNarrow id asciiCodec errors self x)) := by
  first | rfl | (unfold encodeRoad; rfl) | (unfold encodeRoad; simp only []; rfl)
theorem sem_pure_bind {α β : Type} (a : α) (f : α → Sem β) : (pure a >>= f) = f a := rfl
theorem codec_ascii (u : Tok) : Builtin.Str.codecArg "str.encode" "encode" "'encoding'" (some (.str (PySem.Str.ofString "ascii") u)) = pure (some (PySem.Str.ofString "ascii")) := by
  have h1 : (PySem.Str.ofString "ascii").cps.any (fun c => decide (c ≥ 128)) = false := by decide +kernel
  have h2 : (PySem.Str.ofString "ascii").cps.contains 0 = false := by decide +kernel
  unfold Builtin.Str.codecArg
  show (do
    let n ← (pure (PySem.Str.ofString "ascii") : Sem PySem.Str)
    _) = _
  simp only [sem_pure_bind, h1, h2, Bool.false_eq_true, if_false]
theorem encA_tree (x : PySem.Str) (t u : Tok) : «str.encode» ⟨[.str x t, .str (PySem.Str.ofString "ascii") u], []⟩ = (do ret (← _codecs.encodeRoad "str.encode" (.str x t) x (PySem.Str.ofString "ascii") none)) := by
  show ((Builtin.Str.codecArg "str.encode" "encode" "'encoding'" (some (.str (PySem.Str.ofString "ascii") u))) >>= _) = _
  rw [codec_ascii, sem_pure_bind]
  rfl
theorem meets_encA {t u : Tok} (ha : Asc x) (hz : x.length ≤ 16777216) : Meets («str.encode» ⟨[.str x t, .str (PySem.Str.ofString "ascii") u], []⟩) (fun _ R s => ∀ t' k, R (.ok (.ret (.bytes (enc x) t'))) { s with toks := k }) := by
  refine .of_wp fun prog w A R s h => ?_
  rw [encA_tree, encA_road]
  refine wpAny_bind ?_
  refine wpAny_bind (wp_encA ha hz ?_)
  refine wpAny_mkBytes ?_ (by rw [enc_size, sizeLine_eq]; exact hz)
  exact wpAny_pure ⟨_, rfl, h _ _⟩
end
end Aim
namespace Aim
open PySem PySem.Spec PyProof.Rows L2
open LamX (TabB Tabs CodeO)
open Stt (cnt sto)
section
variable {X : Cx} {K : PySem.W.Frag} {TT : List (Addr × Str)} {E : XK} {S : Type} [Stt S]
theorem mt_encA : MtR X "str.encode" (fun x xs H Q => ∃ a, x = .str a ∧ xs = [.str "ascii"] ∧ PySem.W.KSb.Asc a ∧ a.length ≤ 16777216 ∧ Q (.byt (PySem.W.KSb.enc a)) H) := by
  intro pins s σ H x xs v us Q I rx rs h
  obtain ⟨a, rfl, rfl, ha, hz, q⟩ := h
  obtain ⟨t, rfl⟩ := rx
  cases rs with
  | cons r1 rs =>
    cases rs
    obtain ⟨u, rfl⟩ := r1
    exact call_meets PySem.F.slot_str_encode (typeIs_str s a t) PySem.F.entry_str_encode (PySem.F.args_str_encode_2 _ _) (meets_encA ha hz) fun t' k => ⟨.byt _, H, I.tok _, ⟨_, rfl⟩, q⟩
def gEncA : GM
  | .str a, [.str b], P => b = "ascii" ∧ PySem.W.KSb.Asc a ∧ a.length ≤ 16777216 ∧ P (.byt (PySem.W.KSb.enc a))
  | _, _, _ => False
theorem md_encA : MethD K "str" (fun x xs H Q => ∃ a, x = .str a ∧ xs = [.str "ascii"] ∧ PySem.W.KSb.Asc a ∧ a.length ≤ 16777216 ∧ Q (.byt (PySem.W.KSb.enc a)) H) gEncA := fun n x d vs ds H Q P g sx s k => by
  unfold gEncA at g
  split at g
  · obtain ⟨v, rfl, w⟩ := s.one
    obtain ⟨rfl, ha, hz, p⟩ := g
    exact ⟨_, sx.str_iff.1, by rw [w.str_iff.1], ha, hz, k _ _ H p (.refl _) (.byt _ (by rw [PySem.W.KSb.enc_size, sizeLine_eq]; exact hz))⟩
  · exact g.elim
def rBIx : R2 := fun x y H Q => ∃ (z : List UInt8) (i : Int), x = .byt z.toArray ∧ y = .int i ∧ z.length ≤ sizeLine ∧ 0 ≤ i ∧ i < z.length ∧ Q (.int ((z.getD i.toNat 0).toNat : Nat)) H
def gBIx : G2
  | .byt b, .int i, P => 0 ≤ i ∧ i < b.size ∧ P (.int ((b.toList.getD i.toNat 0).toNat : Nat))
  | _, _, _ => False
theorem od_bix : OpD K rBIx gBIx := fun n x y d e H Q P g sx sy k => by
  unfold gBIx at g
  split at g
  · rename_i b i
    obtain ⟨h0, h1, p⟩ := g
    obtain ⟨rfl, hz⟩ := sx.byt_iff
    exact ⟨b.toList, i, rfl, sy.int_iff, by simpa using hz, h0, by simpa using h1, k _ _ H p (.refl _) (.int _)⟩
  · exact g.elim
theorem de_bix {a b : Expr} {fa fb : GDE S} {pos : Pos} (ha : PE X a (LE X.K TT E fa)) (hb : PE X b (LE X.K TT E fb)) (hs : PlainIxT b) : PE X (.Subscript a b pos) (LE X.K TT E (dOp gBIx fa fb)) := (pe_item_byt ha hb hs).imp fun _ _ _ h => h.op od_bix
def gBSl : GS
  | .byt b, lo, hi, P => b.size ≤ 16777216 ∧ P (.byt (PySem.W.KBy.picked b lo hi))
  | _, _, _, _ => False
theorem sd_byt : SlD K rSlB gBSl := fun n x d lo hi H Q P g sx k => by
  unfold gBSl at g
  split at g
  · obtain ⟨h0, p⟩ := g
    obtain ⟨rfl, hz⟩ := sx.byt_iff
    exact ⟨_, rfl, h0, k _ _ H p (.refl _) (.byt _ (Nat.le_trans (PySem.W.KBc.size_picked_le _ lo hi) hz))⟩
  · exact g.elim
theorem de_bsl {a : Expr} {lo hi : Option Expr} {fa : GDE S} {l u : GDO S} {p2 pos : Pos} (ha : PE X a (LE X.K TT E fa)) (hl : PO X lo (LO X.K TT E l)) (hu : PO X hi (LO X.K TT E u)) : PE X (.Subscript a (.Slice lo hi none p2) pos) (LE X.K TT E (dSl gBSl fa l u)) := (pe_slice sl_byt ha hl hu).imp fun _ _ _ h => h.sl sd_byt
end
end Aim
namespace Aim
open PySem PySem.Spec PyProof.Rows L2 RZ
open LamX (TabB)
section
variable {P : Program} {w : World} {K : PySem.W.Frag} {mg : Str → Option Value} {base : Heap} {TT : List (Addr × Str)}
variable {C : Addr}
structure CstB (K : PySem.W.Frag) (mg : Str → Option Value) : Prop where
  g_DIGITS : GC K mg "DIGITS" (.str "0123456789")
  g_PAIR_codes : GC K mg "PAIR_codes" (.int 2)
  g_ZERO : GC K mg "ZERO" (.int 48)
def deedsA (ys : List Str) : List Str := "" :: ys
def spDeedsOf (C : Addr) : DSp := fun ds n Q _ => ∃ ps l rs ys, ds = [progD C ps l rs ys] ∧ ys.length ≤ 6 ∧ Q (.tup ((deedsA ys).map .str)) n
theorem sc_deeds_of : FnScope ["program"] ["program"] (defScope (top 34)) := ⟨rfl, rfl, rfl, by decide +kernel, rfl, by decide +kernel, by decide +kernel⟩
theorem ok_deeds_of {G : Bool} (F : Has K mg "deeds_of" (top 34)) (V_Program : ClsProgram K mg C) (T : Blt mg) : Df P w K mg base G 3 "deeds_of" (LSp K TT (spDeedsOf C)) := by
  refine dat_ok F (fun f fd F => F.binds (fun _ _ _ _ _ _ us hl => by obtain ⟨x0, rfl⟩ := us1 hl; rfl)) sc_deeds_of (fun f cdv A outer s H E hr hG => ⟨_, (dss_one (ds_ret (de_tup (da_cons de_str (da_star (de_prp V_Program.p_deeds V_Program.cl hr sc_Program_deeds ⟨_, _, _, rfl⟩ (fun _ _ _ _ _ _ us hl => by obtain ⟨x0, rfl⟩ := us1 hl; rfl) (de_var (pv 0))) da_nil))))), fun ds n PP R h => ?_⟩) (fun ds n PP R h => ?_)
  · obtain ⟨ps, l, rs, ys, rfl, hy, k⟩ := h
    refine ⟨rfl, ?_⟩
    have sz : sizeLine = 16777216 := by decide +kernel
    have e : Dat.str "" :: (ys.map Dat.str ++ []) = (deedsA ys).map Dat.str := by rw [List.append_nil]; rfl
    have len : (Dat.str "" :: (ys.map Dat.str ++ [])).length ≤ sizeLine := by
      rw [e, List.length_map]
      show ys.length + 1 ≤ _
      omega
    refine ⟨rfl, len, ?_⟩
    have k : PP (.tup (Dat.str "" :: (ys.map Dat.str ++ []))) n := by rw [e]; exact k
    exact k
  · obtain ⟨ps, l, rs, ys, rfl, _⟩ := h
    rfl
def isAim (ps ys : List Str) (d : Dat) : Bool := match d with
  | .tup [a, .str b] => isPlace a ps && decide (b ∈ deedsA ys)
  | _ => false
def spIsAim (C : Addr) : DSp := fun ds n Q _ => ∃ ps l rs ys d, ds = [progD C ps l rs ys, d] ∧ (∀ x ∈ ps, isNameS x = true) ∧ ys.length ≤ 6 ∧ Kn 1 d ∧ Q (.bl (isAim ps ys d)) n
theorem sc_is_aim : FnScope ["program", "value"] ["program", "value"] (defScope (top 35)) := ⟨rfl, rfl, rfl, by decide +kernel, rfl, by decide +kernel, by decide +kernel⟩
theorem ok_is_aim {G : Bool} (F : Has K mg "is_aim" (top 35)) (V_Program : ClsProgram K mg C) (T : Blt mg) (Y : CstB K mg) (D_is_tuple : Df P w K mg base false 1 "is_tuple" (LSp K TT spIsTup)) (D_is_place : Df P w K mg base false 2 "is_place" (LSp K TT spPlace)) (D_deeds_of : Df P w K mg base false 3 "deeds_of" (LSp K TT (spDeedsOf C))) : Df P w K mg base G 5 "is_aim" (LSp K TT (spIsAim C)) := by
  refine dat_ok F (fun f fd F => F.binds (fun _ _ _ _ _ _ us hl => by obtain ⟨x0, x1, rfl⟩ := us2 hl; rfl)) sc_is_aim (fun f cdv A outer s H E hr hG => ⟨_, (dss_cons (ds_if (PW.pt (dw_or (dt_not (dt_val (de_call D_is_tuple hr (by first | decide | omega) (by first | exact hG | (intro z; cases z)) rfl passL (da_cons (de_var (pv 1)) (da_cons (de_g rfl Y.g_PAIR_codes) da_nil))))) (dw_or1 (dt_not (dt_val (de_call D_is_place hr (by first | decide | omega) (by first | exact hG | (intro z; cases z)) rfl passL (da_cons (de_ix ix_seq od_ix (de_var (pv 1)) de_int (fun _ _ => rfl)) (da_cons (de_prp V_Program.p_places V_Program.cl hr sc_Program_places ⟨_, _, _, rfl⟩ (fun _ _ _ _ _ _ us hl => by obtain ⟨x0, rfl⟩ := us1 hl; rfl) (de_var (pv 0))) da_nil)))))))) (dss_one (ds_ret de_bl)) dss_nil)
      (dss_one (ds_ret (de_and (de_cb (cd_isT (T := "str") (by simp)) (pe_callB call_isi rfl T.n_isinstance boot_isinstance (da_cons (de_ix ix_seq od_ix (de_var (pv 1)) de_int (fun _ _ => rfl)) (da_cons (de_c (pe_bltn (v := .ty "str") rfl T.n_str boot_str rfl) (fun _ _ => .ty _)) da_nil)))) (de_one (de_cmp (op_inAny (units65 hr)) od_inAny (de_ix ix_seq od_ix (de_var (pv 1)) de_int (fun _ _ => rfl)) (de_call D_deeds_of hr (by first | decide | omega) (by first | exact hG | (intro z; cases z)) rfl passL (da_cons (de_var (pv 0)) da_nil)) (by rfl))))))), fun ds n PP R h => ?_⟩) (fun ds n PP R h => ?_)
  · obtain ⟨ps, l, rs, ys, d, rfl, hp, hy, kd, k⟩ := h
    refine ⟨rfl, ?_⟩
    refine ⟨d, 2, rfl, kd.kd, ?_⟩
    cases c : isTup d 2 with
    | false =>
      have no : isAim ps ys d = false := by
        cases z : isAim ps ys d with
        | false => rfl
        | true =>
          unfold isAim at z
          split at z
          · cases c
          · cases z
      rw [no] at k
      exact k
    | true =>
      obtain ⟨a, b, rfl⟩ := pair_of c
      obtain ⟨_, kk⟩ := Kn.inn (k := 0) kd
      refine ⟨rfl, a, ps, rfl, kk a (by simp), ?_⟩
      rcases str_orK (show Kd b from kk b (by simp)) with ⟨x, rfl⟩ | ⟨t, e, e2⟩
      · replace k : PP (.bl (isPlace a ps && decide (x ∈ deedsA ys))) n := k
        cases c1 : isPlace a ps with
        | false =>
          rw [c1, Bool.false_and] at k
          exact k
        | true =>
          rw [c1, Bool.true_and] at k
          refine ⟨rfl, ps, l, rs, ys, rfl, hy, ?_⟩
          refine .inr (.inl ⟨⟨rfl, flat_names _⟩, ?_⟩)
          rw [in_names]
          exact k
      · have no : isAim ps ys (.tup [a, b]) = false := by cases b <;> first | rfl | (cases e; cases e2)
        rw [no] at k
        cases c1 : isPlace a ps with
        | false => exact k
        | true =>
          clear no
          cases b <;> first | exact ⟨rfl, k⟩ | exact k | (cases e; cases e2) | cases e
  · obtain ⟨ps, l, rs, ys, d, rfl, _⟩ := h
    rfl
structure ErrB (P : Program) (K : PySem.W.Frag) (mg : Str → Option Value) (stI : Stmt) (fI AE CA CY : Addr) : Prop where
  ini : AimI P K stI fI AE
  c_BadAims : AimC K fI AE CA
  m_BadAims : mg "BadAims" = some (.ref CA)
  c_BadBytes : AimC K fI AE CY
  m_BadBytes : mg "BadBytes" = some (.ref CY)
variable {fI AE CA CY : Addr}
def ixS (ps : List Str) (p : Str) : Nat := ps.findIdx (fun q => decide (q = p))
theorem ixS_ok {ps : List Str} {p : Str} (h : p ∈ ps) : ps[ixS ps p]? = some p ∧ (∀ m, m < ixS ps p → ps[m]? ≠ some p) ∧ ixS ps p < ps.length := by
  have hl : ixS ps p < ps.length := List.findIdx_lt_length_of_exists ⟨p, h, by simp⟩
  refine ⟨?_, fun m hm e => ?_, hl⟩
  · have z := List.findIdx_getElem (w := hl)
    rw [List.getElem?_eq_getElem hl]
    exact congrArg some (of_decide_eq_true z)
  · have hm2 : m < ps.length := by omega
    have z := List.not_of_lt_findIdx hm
    rw [List.getElem?_eq_getElem hm2] at e
    simp at z
    exact z (Option.some.inj e)
def dig (k : Nat) : Str := ⟨#[48 + k]⟩
theorem dig_at {k : Nat} (h : k < 10) : atI ("0123456789" : Str).cps.toList (k : Int) = some (48 + k) := by
  have all : ∀ j : Fin 10, atI ("0123456789" : Str).cps.toList (j.1 : Int) = some (48 + j.1) := by decide +kernel
  exact all ⟨k, h⟩
def sgn (ps ys : List Str) (a : Str × Str) : Str := dig (ixS ps a.1) ++ dig (ixS (deedsA ys) a.2)
def signD (ps ys : List Str) : Dat → Dat
  | .tup [.str a, .str b] => .str (sgn ps ys (a, b))
  | d => d
def aimD (a : Str × Str) : Dat := .tup [.str a.1, .str a.2]
def codesA (ps ys : List Str) (as : List (Str × Str)) : List Nat := as.flatMap fun a => [48 + ixS ps a.1, 48 + ixS (deedsA ys) a.2]
def bytesA (ps ys : List Str) (as : List (Str × Str)) : Array UInt8 := ((codesA ps ys as).map Nat.toUInt8).toArray
def AimsOk (ps ys : List Str) (as : List (Str × Str)) : Prop := ∀ a ∈ as, a.1 ∈ ps ∧ a.2 ∈ deedsA ys
def isAims (ps ys : List Str) : Dat → Bool
  | .tup xs => xs.all (isAim ps ys)
  | _ => false
theorem place_of {d : Dat} {ps : List Str} (h : isPlace d ps = true) : ∃ p, d = .str p ∧ p ∈ ps := by
  unfold isPlace at h
  rw [Bool.and_eq_true] at h
  obtain ⟨p, rfl, _⟩ := isNameD_of h.1
  exact ⟨p, rfl, of_decide_eq_true h.2⟩
theorem isAim_of {ps ys : List Str} {d : Dat} (h : isAim ps ys d = true) : ∃ a : Str × Str, d = aimD a ∧ a.1 ∈ ps ∧ a.2 ∈ deedsA ys := by
  unfold isAim at h
  split at h
  · rename_i a b
    rw [Bool.and_eq_true] at h
    obtain ⟨p, rfl, hp⟩ := place_of h.1
    exact ⟨(p, b), rfl, hp, of_decide_eq_true h.2⟩
  · cases h
theorem isAims_of {ps ys : List Str} : ∀ {xs : List Dat}, xs.all (isAim ps ys) = true → ∃ as : List (Str × Str), xs = as.map aimD ∧ AimsOk ps ys as
  | [], _ => ⟨[], rfl, fun a h => nomatch h⟩
  | d :: r, h => by
    rw [List.all_cons, Bool.and_eq_true] at h
    obtain ⟨a, rfl, h1⟩ := isAim_of h.1
    obtain ⟨as, rfl, h2⟩ := isAims_of h.2
    refine ⟨a :: as, rfl, fun x hx => ?_⟩
    rcases List.mem_cons.mp hx with rfl | hx
    · exact h1
    · exact h2 x hx
theorem codes_tl (ps ys : List Str) : ∀ as : List (Str × Str), TL.joinL ("" : Str).cps.toList ((as.map (sgn ps ys)).map fun b => b.cps.toList) = codesA ps ys as
  | [] => rfl
  | [a] => rfl
  | a :: b :: as => by
    have ih := codes_tl ps ys (b :: as)
    show [48 + ixS ps a.1, 48 + ixS (deedsA ys) a.2] ++ ([] ++ TL.joinL ("" : Str).cps.toList (((b :: as).map (sgn ps ys)).map fun b => b.cps.toList)) = _
    rw [ih]
    rfl
theorem codes_len (ps ys : List Str) (as : List (Str × Str)) : (codesA ps ys as).length = 2 * as.length := by
  unfold codesA
  induction as with
  | nil => rfl
  | cons a as ih =>
    rw [List.flatMap_cons, List.length_append, ih, List.length_cons]
    rw [List.length_cons, List.length_cons, List.length_nil]
    omega
theorem codes_small {ps ys : List Str} {as : List (Str × Str)} (h : AimsOk ps ys as) (hp : ps.length ≤ 10) (hy : ys.length ≤ 6) : ∀ c ∈ codesA ps ys as, 48 ≤ c ∧ c < 58 := by
  intro c hc
  obtain ⟨a, ha, hc⟩ := List.mem_flatMap.mp hc
  obtain ⟨h1, h2⟩ := h a ha
  have q1 := (ixS_ok h1).2.2
  have q2 := (ixS_ok h2).2.2
  have q3 : (deedsA ys).length ≤ 7 := by show ys.length + 1 ≤ 7; omega
  rcases List.mem_cons.mp hc with rfl | hc
  · omega
  · rw [List.mem_singleton.mp hc]
    omega
def spAimBytes (C CA : Addr) : DSp := fun ds n Q R => ∃ ps l rs ys d, ds = [progD C ps l rs ys, d] ∧ (∀ x ∈ ps, isNameS x = true) ∧ ps.length ≤ 10 ∧ ys.length ≤ 6 ∧ Kn 2 d ∧ (isAims ps ys d = false → R CA d n) ∧ (∀ as, d = .tup (as.map aimD) → AimsOk ps ys as → Q (.byt (bytesA ps ys as)) n)
theorem sc_aim_bytes : FnScope ["program", "aims", "signs", "places", "deeds", "place", "deed", "aim"] ["program", "aims"] (defScope (top 36)) := ⟨rfl, rfl, rfl, by decide +kernel, rfl, by decide +kernel, by decide +kernel⟩
theorem ok_aim_bytes {G : Bool} (F : Has K mg "aim_bytes" (top 36)) (V_Program : ClsProgram K mg C) (T : Blt mg) (Y : CstB K mg) (Z : ErrB P K mg (inClass (top 23) 0) fI AE CA CY) (D_is_aim : Df P w K mg base false 5 "is_aim" (LSp K TT (spIsAim C))) (D_deeds_of : Df P w K mg base false 3 "deeds_of" (LSp K TT (spDeedsOf C))) : DfW P w K mg base G 6 "aim_bytes" (top 36) ["program", "aims"] (LSp K TT (spAimBytes C CA)) := by
  refine dat_okW F (fun f fd F => F.binds (fun _ _ _ _ _ _ us hl => by obtain ⟨x0, x1, rfl⟩ := us2 hl; rfl)) sc_aim_bytes (fun f cdv A outer s H E hr hG => ⟨_, (dss_cons (ds_if (PW.pt (dw_or (dt_not (dt_val (de_cb (cd_isT (T := "tuple") (by simp)) (pe_callB call_isi rfl T.n_isinstance boot_isinstance (da_cons (de_var (pv 1)) (da_cons (de_c (pe_bltn (v := .ty "tuple") rfl T.n_tuple boot_tuple rfl) (fun _ _ => .ty _)) da_nil)))))) (dw_or1 (dt_not (dt_val (de_cb cd_all (pe_callB (cr_all rfl) rfl T.n_all boot_all (da_cons (de_fr (lf_lcI (own := [("aim", 7)]) rfl sc_aim_bytes.nd (di_tup (de_var (pv 1))) (blkOk_by rfl) (fun _ _ _ _ _ => (dg_name (pg_name (i := 7) sc_aim_bytes.nd rfl (Or.inl rfl) (Or.inr rfl)))) (fun _ _ _ _ _ => dts_nil) (fun _ _ _ _ _ => (de_call D_is_aim hr (by first | decide | omega) (by first | exact hG | (intro z; cases z)) rfl passL (da_cons (de_var (pv 0)) (da_cons (de_var (pv 7)) da_nil)))))) da_nil)))))))) (dss_one (ds_raise (ps_raise rfl (takes_of rfl rfl rfl rfl) (pmk_aim Z.ini Z.c_BadAims T.n_super (hr.mono (by decide)) rfl Z.m_BadAims (de_var (pv 1)))))) dss_nil)
      (dss_cons (ds_names (is := [3, 4]) rfl (ps_asg (pe_tup (das_val (de_prp V_Program.p_places V_Program.cl hr sc_Program_places ⟨_, _, _, rfl⟩ (fun _ _ _ _ _ _ us hl => by obtain ⟨x0, rfl⟩ := us1 hl; rfl) (de_var (pv 0))) (das_val (de_call D_deeds_of hr (by first | decide | omega) (by first | exact hG | (intro z; cases z)) rfl (passes_call (takes_of rfl rfl rfl rfl) (fun _ _ _ _ h => h)) (da_cons (de_var (pv 0)) da_nil)) das_nil))) (pg_tup rfl (pgs_cons (pg_name (i := 3) sc_aim_bytes.nd rfl (Or.inr rfl)) (pgs_cons (pg_name (i := 4) sc_aim_bytes.nd rfl (Or.inr rfl)) pgs_nil)))))
      (dss_cons (ds_setF (st_lcI (own := [("place", 5), ("deed", 6)]) rfl sc_aim_bytes.nd (i := 2) rfl rfl rfl (di_tup (de_var (pv 1))) (blkOk_by rfl) (fun _ _ _ _ _ => (dg_tup (n := 2) rfl (dgs_cons (dg_name (pg_name (i := 5) sc_aim_bytes.nd rfl (Or.inl rfl) (Or.inr rfl))) (dgs_cons (dg_name (pg_name (i := 6) sc_aim_bytes.nd rfl (Or.inl rfl) (Or.inr rfl))) dgs_nil)) (fun ds ρ P h => dgl_len (l := [5, 6]) h))) (fun _ _ _ _ _ => dts_nil) (fun _ _ _ _ _ => (de_op op_addAny od_add (de_ix ix_seq od_ix (de_g rfl Y.g_DIGITS) (de_tidx (pe_bmN PySem.F.slot_tuple_index PySem.F.type_tuple_index mt_tup_index (de_var (pv 3)) (da_cons (de_var (pv 5)) da_nil))) (fun _ _ => rfl)) (de_ix ix_seq od_ix (de_g rfl Y.g_DIGITS) (de_tidx (pe_bmN PySem.F.slot_tuple_index PySem.F.type_tuple_index mt_tup_index (de_var (pv 4)) (da_cons (de_var (pv 6)) da_nil))) (fun _ _ => rfl))))))
      (dss_one (ds_ret (L2.PE.imp (pe_bm PySem.F.plainAttrs_str PySem.F.slot_str_encode PySem.F.type_str_encode mt_encA (L2.PE.imp (pe_bm PySem.F.plainAttrs_str PySem.F.slot_str_join PySem.F.type_str_join mt_join de_str (da_cons (de_var (pv 2)) da_nil)) fun _ _ _ h => h.bm md_join ty_str) (da_cons de_str da_nil)) fun _ _ _ h => h.bm md_encA ty_str)))))), fun ds n PP R h => ?_⟩) (fun ds n PP R h => ?_)
  · obtain ⟨ps, l, rs, ys, d, rfl, hp, hp2, hy, kd, kr, kq⟩ := h
    refine ⟨rfl, rfl, ?_⟩
    rcases tup_orK kd.kd with ⟨xs, rfl⟩ | ⟨t, e, e2⟩
    · obtain ⟨hl, hk⟩ := kd.inn
      refine iteF (A := True) ?_
      refine compI_bools (isAim ps ys) (fun p hh Q q => ⟨ps, l, rs, ys, p, rfl, hp, hy, hk p hh, q⟩) ?_
      rw [all_map_id]
      cases c : xs.all (isAim ps ys) with
      | false => exact iteT (B := True) (kr c)
      | true =>
        obtain ⟨as, rfl, ok⟩ := isAims_of c
        replace kq := kq as rfl ok
        refine iteF (A := True) ?_
        refine ⟨rfl, ps, l, rs, ys, rfl, hy, ?_⟩
        refine ⟨rfl, by decide, ?_⟩
        refine compI_map (signD ps ys) (fun p hh Q q => ?_) ?_
        · obtain ⟨a, ha, rfl⟩ := List.mem_map.mp hh
          obtain ⟨h1, h2⟩ := ok a ha
          obtain ⟨x1, x2, x3⟩ := ixS_ok h1
          obtain ⟨y1, y2, y3⟩ := ixS_ok h2
          have y4 : (deedsA ys).length ≤ 7 := by show ys.length + 1 ≤ 7; omega
          refine ⟨⟨_, rfl⟩, ps, ixS ps a.1, rfl, x1, x2, ?_⟩
          show optD (atI ("0123456789" : Str).cps.toList (ixS ps a.1 : Int)) _
          rw [dig_at (by omega)]
          refine ⟨⟨_, rfl⟩, deedsA ys, ixS (deedsA ys) a.2, rfl, y1, y2, ?_⟩
          show optD (atI ("0123456789" : Str).cps.toList (ixS (deedsA ys) a.2 : Int)) _
          rw [dig_at (by omega)]
          exact ⟨by show 1 + 1 ≤ sizeLine; decide, q⟩
        have es : (as.map aimD).map (signD ps ys) = (as.map (sgn ps ys)).map Dat.str := by
          rw [List.map_map, List.map_map]
          rfl
        rw [es]
        have tl : (Txt.join "" (as.map (sgn ps ys))).cps.toList = codesA ps ys as := by
          rw [← codes_tl, TL.join_eq]
          exact TL.tl_join "" (as.map (sgn ps ys))
        have ln : (as.map aimD).length ≤ 2000 := hl
        rw [List.length_map] at ln
        have cl := codes_len ps ys as
        have cs := codes_small ok hp2 hy
        have jl : (Txt.join "" (as.map (sgn ps ys))).length = 2 * as.length := by
          show (Txt.join "" (as.map (sgn ps ys))).cps.size = _
          rw [← Array.length_toList, tl, cl]
        have sz : sizeLine = 16777216 := by decide +kernel
        refine ⟨rfl, txts_map _ ⟨?_, ?_, ?_⟩⟩
        · have : ((as.map (sgn ps ys)).map (·.length)).sum = 2 * as.length := by
            rw [List.map_map]
            have : ∀ bs : List (Str × Str), (bs.map ((·.length) ∘ sgn ps ys)).sum = 2 * bs.length := fun bs => by
              induction bs with
              | nil => rfl
              | cons b bs ih =>
                rw [List.map_cons, List.sum_cons, ih, List.length_cons]
                have : ((·.length) ∘ sgn ps ys) b = 2 := rfl
                omega
            exact this as
          have : (as.map (sgn ps ys)).length * ("" : Str).length = 0 := Nat.mul_zero _
          omega
        · refine ⟨by rw [jl]; omega, ?_⟩
          rw [Array.all_eq_true']
          intro c hc
          have := (cs c (by rw [← tl]; exact Array.mem_toList_iff.mpr hc)).2
          exact decide_eq_true (by omega)
        · refine ⟨rfl, rfl, fun c hc => ?_, by rw [jl]; omega, ?_⟩
          · rw [tl] at hc
            have := (cs c hc).2
            omega
          · have : PySem.W.KSb.enc (Txt.join "" (as.map (sgn ps ys))) = bytesA ps ys as := by
              unfold PySem.W.KSb.enc bytesA
              rw [tl]
            rw [this]
            exact kq
    · refine opt_no e ?_
      show if (!isT "tuple" t) = true then _ else _
      rw [e2]
      refine iteT ?_
      refine iteT (kr ?_)
      cases d <;> first | rfl | (cases e; cases e2)
  · obtain ⟨ps, l, rs, ys, d, rfl, _⟩ := h
    rfl
end
end Aim
namespace Aim
open PySem PySem.Spec PyProof.Rows L2
open LamX (TabB Tabs CodeO)
open Stt (cnt sto)
section
variable {prog : Program} {w : World} {A : Around} {E : Value → Shared → Prop} {s : Shared} {b : Array UInt8} {t : Tok}
open PySem.W.KBw Builtin
theorem nextOf_byt {it : Addr} {i : Nat} {c : UInt8} {Q : Value → Shared → Prop} (hit : IsBytesIter s.heap it b t i) (hx : b[i]? = some c)
    (hQ : ∀ h', IsBytesIter h' it b t (i + 1) → Heap.SameBut it s.heap h' → Q (.int (c.toNat : Int) s.toks) { s with heap := h', toks := s.toks + 1 }) : wpAny (model prog w) A (Builtin.SmallTypes.nextOf (.ref it)) Q E s := by
  obtain ⟨o, ho, hc, hd⟩ := id hit
  unfold Builtin.SmallTypes.nextOf
  refine wpAny_bind (wpAny_callSpecial?_slot (name := PySem.Str.ofString "__next__") (iter_typeIs hit) slot_next
    (wpAny_call_entry slot_next (iter_typeIs hit) entry_next ?_ (args_next _)))
  show wpAny _ _ (field (.ref it) 0 >>= _) _ _ s
  refine wpAny_bind (wpAny_field ho hd (x := .bytes b t) rfl ?_)
  show wpAny _ _ (if (Value.bytes b t == Value.none) = true then _ else _) _ _ s
  rw [if_neg (show ¬ ((Value.bytes b t == Value.none) = true) from Bool.false_ne_true)]
  show wpAny _ _ (field (.ref it) 1 >>= _) _ _ s
  refine wpAny_bind (wpAny_field ho hd (x := .int i 0) rfl ?_)
  refine wpAny_bind (wpAny_of_eq (a := b) rfl ?_)
  simp only [Int.toNat_natCast, hx]
  refine wpAny_bind (wpAny_setField ho hd (by simp) (wpAny_bind (wpAny_mkInt (wpAny_pure ⟨_, rfl, wpAny_pure (hQ _ ?_ (Heap.SameBut.update ..))⟩))))
  exact ⟨_, Heap.get?_update_self _ ho (Obj.isFreed_of_fields (Obj.data_mapFields hd _)), (Obj.cls_mapFields ..).trans hc, by
    rw [Obj.data_mapFields hd]; simp [rawInt]⟩
theorem nextOf_byt_end {it : Addr} {i : Nat} {Q : Value → Shared → Prop} (hh : A.handled = none) (hit : IsBytesIter s.heap it b t i) (hx : b[i]? = none)
    (hE : ∀ h' e, Heap.ExtBut it s.heap h' → (∃ o, h'.get? e = some o ∧ o.cls = .type "StopIteration") → E (.ref e) { s with heap := h' }) : wpAny (model prog w) A (Builtin.SmallTypes.nextOf (.ref it)) Q E s := by
  obtain ⟨o, ho, hc, hd⟩ := id hit
  unfold Builtin.SmallTypes.nextOf
  refine wpAny_bind (wpAny_callSpecial?_slot (name := PySem.Str.ofString "__next__") (iter_typeIs hit) slot_next
    (wpAny_call_entry slot_next (iter_typeIs hit) entry_next ?_ (args_next _)))
  show wpAny _ _ (field (.ref it) 0 >>= _) _ _ s
  refine wpAny_bind (wpAny_field ho hd (x := .bytes b t) rfl ?_)
  show wpAny _ _ (if (Value.bytes b t == Value.none) = true then _ else _) _ _ s
  rw [if_neg (show ¬ ((Value.bytes b t == Value.none) = true) from Bool.false_ne_true)]
  show wpAny _ _ (field (.ref it) 1 >>= _) _ _ s
  refine wpAny_bind (wpAny_field ho hd (x := .int i 0) rfl ?_)
  refine wpAny_bind (wpAny_of_eq (a := b) rfl ?_)
  simp only [Int.toNat_natCast, hx]
  refine wpAny_bind (wpAny_rule (wpAny_bind (wpAny_setField ho hd (by simp) ?_)))
  show wpAny _ _ (newExc (.type "StopIteration") [] >>= _) _ _ _
  refine wpAny_bind ?_
  simp only [newExc, newTuple]
  refine wpAny_bind (wpAny_newObj_type ?_ (by size_fits))
  refine wpAny_bind (m := firstArgMember _ _) (wpAny_of_eq (a := Value.none) (by first | rfl | (simp only [firstArgMember]; rfl)) ?_)
  refine wpAny_newObj_type ?_ (by size_fits)
  simp only [raiseNew]
  refine wpAny_bind (wpAny_handled ?_)
  first | rw [show A.in1.handled = none from hh] | rw [hh]
  refine wpAny_bind (wpAny_pure (wpAny_throw ?_))
  exact hE _ _ (((Heap.SameBut.update ..).extBut.push _).push _) ⟨_, Heap.get?_push_size _ rfl, rfl⟩
theorem draws_byt (hh : A.handled = none) (it : Addr) (b : Array UInt8) (t : Tok) : Draws prog w A it [it] b.size (fun i v => ∃ c u, b[i]? = some c ∧ v = .int (c.toNat : Int) u) (fun i h => IsBytesIter h it b t i) where
  live := fun i h ⟨o, e, _⟩ => ⟨o, e⟩
  frame := fun i h h' st k => let ⟨o, ho, r⟩ := st; ⟨o, k it (by simp) o ho, r⟩
  item := fun i s Q E hi st hQ => nextOf_byt st (Array.getElem?_eq_getElem hi) fun h' a c => hQ _ h' _ ⟨_, _, Array.getElem?_eq_getElem hi, rfl⟩ a c
  done := fun s Q E st hE => nextOf_byt_end hh st (Array.getElem?_eq_none (Nat.le_refl _)) hE
theorem begins_byt (b : Array UInt8) (t : Tok) : Begins (.bytes b t) { cls := .type "bytes_iterator", data := .fields #[.bytes b t, .int 0 0] } fun _ => True where
  iter := fun prog w A E s Q _ h => pyIter_bytes h
  keeps := fun _ _ _ _ => trivial
  free := rfl
end
def IteB (b : Array UInt8) : It :=
  ⟨fun i H => i < b.size, fun i H v H' => ∃ (T : Addr) (o : Obj) (c : UInt8), v = .ref T ∧ H T = none ∧ o.dict = none ∧ H' = upd H T (.frz o (.tup [.int (i : Nat), .int (c.toNat : Nat)])) ∧ b[i]? = some c, fun i H => b.size ≤ i⟩
section
variable {P : Program} {w : World} {K : PySem.W.Frag}
open PySem.W.KBw
theorem turn_enumB (b : Array UInt8) (t : Tok) {elts : List Expr} {kk : Nat} {tpos : Pos} (e it : Addr) :
    Turn P w K (.Tuple elts kk tpos) (IteB b) [e, it] e (fun i h => (∃ old, IsEnum h e it (0 + ((i : Nat) : Int)) old) ∧ IsBytesIter h it b t i ∧ e ≠ it) where
  mem := by simp
  obj := fun i h st a hb => by
    obtain ⟨⟨old, he⟩, hi, _⟩ := st
    obtain ⟨o, ho, _, hd⟩ := hi
    have e' : a = e ∨ a = it := by simpa using hb
    rcases e' with z | z
    · rw [z]; exact ⟨_, he, fun v q => nomatch q⟩
    · rw [z]; exact ⟨o, ho, fun v q => by rw [hd] at q; cases q⟩
  keep := fun i h h' st q => by
    obtain ⟨⟨old, he⟩, ⟨o, ho, r⟩, hne⟩ := st
    exact ⟨⟨old, q e (by simp) _ he⟩, ⟨o, q it (by simp) o ho, r⟩, hne⟩
  item := by
    intro X hP hw hK hc i pins s σ H E I hf st hg
    subst hP hw hK
    obtain ⟨⟨old, he⟩, hit, hne⟩ := st
    have hel : e < s.heap.objs.size := Heap.lt_size he
    obtain ⟨oi, hoi, hci, hdi⟩ := id hit
    have hil : it < s.heap.objs.size := Heap.lt_size hoi
    have D := draws_byt (prog := X.prog) (w := X.w) (A := X.A.in1) (I.ok.hd hc) it b t
    refine wpAny_pyNext_enum_itemC D he hit hg hne (by simp [hne]) fun y h' tk hy ho st' hT' hsz hk => ?_
    obtain ⟨c, u, hcx, rfl⟩ := hy
    refine ⟨_, rfl, wpAny_letOwnedTupleGo_enum (s := { s with heap := h', toks := tk + 1 }) ho fun h'' he' sb => ?_⟩
    have hT2 := (sb.2 _ (Nat.ne_of_gt hel)).trans hT'
    have new : ObjOk X.prog X.w (upd H s.heap.objs.size (.frz { cls := .type "tuple", data := .seq #[.int (0 + ((i : Nat) : Int)) tk, .int (c.toNat : Int) u] } (.tup [.int (i : Nat), .int (c.toNat : Nat)]))) h'' s.heap.objs.size (.frz { cls := .type "tuple", data := .seq #[.int (0 + ((i : Nat) : Int)) tk, .int (c.toNat : Int) u] } (.tup [.int (i : Nat), .int (c.toNat : Nat)])) :=
      ⟨hT2, by show 2 ≤ sizeLine; decide, [.int (0 + ((i : Nat) : Int)) tk, .int (c.toNat : Int) u], .cons ⟨tk, by rw [Int.zero_add]⟩ (.cons ⟨u, rfl⟩ .nil), ⟨_, hT2, rfl, _, rfl⟩⟩
    have I1 : Inv X pins σ (upd H s.heap.objs.size (.frz { cls := .type "tuple", data := .seq #[.int (0 + ((i : Nat) : Int)) tk, .int (c.toNat : Int) u] } (.tup [.int (i : Nat), .int (c.toNat : Nat)]))) { s with heap := h'', toks := tk + 1 } :=
      I.turnedNew (ch := [e, it]) (fun b ob hb q => (sb.2 b (fun z => hb (by simp [z]))).trans (hk b ob (fun z => hb (by simp [z])) (fun z => hb (by simp [z])) q)) hf (Nat.le_refl _) new
    refine ⟨.ref s.heap.objs.size, _, I1, rfl, ⟨_, _, c, rfl, I.hok.fresh (Nat.le_refl _), rfl, rfl, hcx⟩, ⟨⟨.int (c.toNat : Int) u, ?_⟩, ?_, hne⟩, fun a hb => ?_⟩
    · have e1 : (0 : Int) + ((i + 1 : Nat) : Int) = 0 + (i : Nat) + 1 := by push_cast; omega
      rw [e1]
      exact he'
    · obtain ⟨o, ho2, r⟩ := st'
      exact ⟨o, (sb.2 it (Ne.symm hne)).trans ho2, r⟩
    · have e' : a = e ∨ a = it := by simpa using hb
      have hb' : a < s.heap.objs.size := by
        rcases e' with z | z
        · rw [z]; exact hel
        · rw [z]; exact hil
      rw [upd_ne (Nat.ne_of_lt hb')]
      exact (hf a hb).1
  done := by
    intro X hP hw hK hc i pins s σ H E I hf st hg
    subst hP hw hK
    obtain ⟨⟨old, he⟩, hit, hne⟩ := st
    obtain ⟨f0, f1, f2, f3, f4, f5⟩ := hf it (by simp)
    have D : Draws X.prog X.w X.A.in1 it [it] i (fun _ _ => True) (fun j h => j = i ∧ IsBytesIter h it b t i) :=
      ⟨fun j h z => let ⟨o, q, _⟩ := z.2; ⟨o, q⟩, fun j h h' z q => let ⟨o, ho, r⟩ := z.2; ⟨z.1, o, q it (by simp) o ho, r⟩, fun j s' Q E lt z => absurd z.1 (Nat.ne_of_lt lt), fun s' Q E z hE => nextOf_byt_end (I.ok.hd hc) z.2 (Array.getElem?_eq_none hg) hE⟩
    exact wpAny_pyNext_enum_endD D he ⟨rfl, hit⟩ fun h' eb => ⟨rfl, I.turned (t' := s.toks) (fun b o hb q => eb b o hb q) f0 f1 f3 f4 f5⟩
  self := fun A i s Q E st h => by
    obtain ⟨⟨_, he⟩, _⟩ := st
    exact wpAny_pyIter_enum he h
end
def iEnumB (ta : TA) : TI := fun σ H R => ta σ H fun vs H1 => ∃ b, vs = [.byt b] ∧ R (IteB b) H1
theorem pi_enumB {X : Cx} {e : Expr} {es : List Expr} {ta : TA} {p pos tpos : Pos} {elts : List Expr} {kk : Nat} (hg : Gl X "enumerate") (hm : X.mg "enumerate" = none) (ha : PA X (e :: es) ta) (hs : starEach (e :: es) X.env = (false, eval e X.env) :: starEach es X.env := by rfl) (hp : (backTo pos (starEach es X.env)).any (·.1) = false := by rfl) :
    PI X (.Tuple elts kk tpos) (.Call (.Name "enumerate" p) (e :: es) [] pos) (iEnumB ta) := by
  refine ⟨fun pins s σ H R I h => ?_⟩
  refine Call_ (ld_blt I hg hm boot_enumerate (PyProof.Rows.callWith_type1 (thn (ha.run pos pins s σ H _ I h) fun us s1 hq90 => ?_) hs hp))
  obtain ⟨vs, H1, I1, r1, b, rfl, q⟩ := hq90
  cases r1 with
  | cons r rr =>
    cases rr
    obtain ⟨t, rfl⟩ := r
    refine enum_begins1 (begins_byt b t) trivial fun h' he hit hsz hk => ?_
    refine wpAny_pyIter_enum he ?_
    have I2 : Inv X pins σ H1 { s1 with heap := h' } := I1.kept (t' := s1.toks) hk
    refine ⟨s1.heap.objs.size + 1, [s1.heap.objs.size + 1, s1.heap.objs.size], _, _, H1, rfl, I2, turn_enumB b t (s1.heap.objs.size + 1) s1.heap.objs.size, ⟨⟨.none, by simpa using he⟩, ⟨_, hit, rfl, rfl⟩, Nat.succ_ne_self _⟩, fun b hb => ?_, q⟩
    have e' : b = s1.heap.objs.size + 1 ∨ b = s1.heap.objs.size := by simpa using hb
    have hle : s1.heap.objs.size ≤ b := by
      rcases e' with z | z
      · rw [z]; exact Nat.le_add_right _ _
      · rw [z]; exact Nat.le_refl _
    exact I1.fpOk hle (I1.hok.fresh hle)
section
variable {S : Type} [Stt S] {X : Cx} {TT : List (Addr × Str)} {E : XK} {K : PySem.W.Frag}
def bytD (b : Array UInt8) : List Dat := b.toList.map fun c => .int (c.toNat : Nat)
def enB : List Dat → (List Dat → Prop) → Prop
  | [.byt b], P => P (pairs (numL 0 b.size) (bytD b))
  | _, _ => False
def diEnumB (f : GDA S) : GDI S := fun ρ n P R => f ρ n (fun ds m => enB ds fun xs => P xs m) R
theorem items_enumB {b : Array UInt8} {m : S} {H : Hp} (l : b.size ≤ sizeLine) : Items K TT (IteB b) m H (pairs (numL 0 b.size) (bytD b)) := by
  have hn : (pairs (numL 0 b.size) (bytD b)).length = b.size := by rw [pairs_len, numL_len]; simp [bytD]
  refine ⟨by rw [hn]; exact l, fun i n' H' hi g => by rw [hn] at hi; exact hi, fun n' H' g => by rw [hn]; exact Nat.le_refl _, fun i n' H' x H2 d hd g y => ?_⟩
  obtain ⟨hi, _⟩ := List.getElem?_eq_some_iff.mp hd
  obtain ⟨T, o, c, e1, e2, e6, e3, e5⟩ := y
  obtain ⟨d1, d2, f1, f2, rfl⟩ := pairs_get hd
  rw [numL_get _ _ _ (by rw [hn] at hi; exact hi)] at f1
  cases f1
  have f3 : (bytD b)[i]? = some (.int (c.toNat : Nat)) := by
    unfold bytD
    rw [List.getElem?_map, Array.getElem?_toList, e5]
    rfl
  rw [f3] at f2
  cases f2
  rw [Int.zero_add]
  refine ⟨by rw [e3]; exact .new e2, fun G gG q => pair_sees e2 e1 e6 e3 q (.int _) (.int _)⟩
theorem di_enumB {tg e : Expr} {fr : GDA S} (h : PI X tg e (iEnumB (LA X.K TT E fr))) : PI X tg e (LI X.K TT E (diEnumB fr)) := h.imp fun σ H R hz7 => ex8 hz7 fun ρ n P Rx r f k x => ⟨ρ, n, _, Rx, r, f, fun ds m vs H1 q e s => by
  unfold enB at q
  split at q
  · cases s with
    | cons s1 s =>
      cases s
      obtain ⟨rfl, hz⟩ := s1.byt_iff
      exact ⟨_, rfl, k _ m _ H1 q e (items_enumB hz)⟩
  · exact q.elim, x⟩
end
end Aim
namespace Aim
open PySem PySem.Spec PyProof.Rows L2
open LamX (TabB Tabs CodeO)
open Stt (cnt sto)
variable {S : Type} [Stt S]
section
variable {X : Cx} {K : PySem.W.Frag} {TT : List (Addr × Str)} {E : XK}
def gOdd : G2
  | .int i, .int j, P => ∃ n : Nat, i = (n : Nat) ∧ j = 1 ∧ P (.int ((n % 2 : Nat) : Int))
  | _, _, _ => False
theorem od_odd : OpD K (fun x y H Q => ∃ n : Nat, x = .int (n : Int) ∧ y = .int 1 ∧ Q (.int ((n % 2 : Nat) : Int)) H) gOdd := fun n x y d e H Q P g sx sy k => by
  unfold gOdd at g
  split at g
  · obtain ⟨m, rfl, rfl, p⟩ := g
    exact ⟨m, sx.int_iff, sy.int_iff, k _ _ H p (.refl _) (.int _)⟩
  · exact g.elim
def stepL (lo c : Int) (k : Nat) : List Dat := (List.range k).map fun i => .int (lo + (i : Nat) * c)
theorem stepL_len (lo c : Int) (k : Nat) : (stepL lo c k).length = k := by simp [stepL]
theorem stepL_get {lo c : Int} {k i : Nat} (h : i < k) : (stepL lo c k)[i]? = some (.int (lo + (i : Nat) * c)) := by
  unfold stepL
  rw [List.getElem?_map, List.getElem?_range h]
  rfl
theorem items_step {lo c : Int} {k : Nat} {m : S} {H : Hp} (l : k ≤ sizeLine) : Items K TT (Itc lo c k) m H (stepL lo c k) := by
  refine ⟨by rw [stepL_len]; exact l, fun i n' H' hi g => by rw [stepL_len] at hi; exact hi, fun n' H' g => by rw [stepL_len]; exact Nat.le_refl _, fun i n' H' x H2 d hd g y => ?_⟩
  obtain ⟨e1, e2⟩ := y
  have hi : i < k := by
    obtain ⟨h, _⟩ := List.getElem?_eq_some_iff.mp hd
    rw [stepL_len] at h
    exact h
  rw [stepL_get hi] at hd
  cases hd
  rw [e1, e2]
  exact ⟨.refl _, fun _ _ _ => .int _⟩
def rg3 : List Dat → (List Dat → Prop) → Prop
  | [.int i, .int j, .int c], P => ∃ n : Nat, RgC i j c n ∧ n ≤ sizeLine ∧ P (stepL i c n)
  | _, _ => False
def diRng3 (f : GDA S) : GDI S := fun ρ n P R => f ρ n (fun ds m => rg3 ds fun xs => P xs m) R
theorem di_rng3 {tg e : Expr} {fr : GDA S} (h : PI X tg e (iRng3 (LA K TT E fr))) : PI X tg e (LI K TT E (diRng3 fr)) := h.imp fun σ H R hz7 => ex8 hz7 fun ρ n P Rx r f k x => ⟨ρ, n, _, Rx, r, f, fun ds m vs H1 q e s => by
  unfold rg3 at q
  split at q
  · obtain ⟨z, h1, l, q⟩ := q
    cases s with
    | cons s1 s =>
      cases s with
      | cons s2 s =>
        cases s with
        | cons s3 s =>
          cases s
          exact ⟨_, _, _, z, by rw [s1.int_iff, s2.int_iff, s3.int_iff], h1, k _ m _ H1 q e (items_step l)⟩
  · exact q.elim, x⟩
theorem rgc_two {n : Nat} (h : n ≤ 1000000) : RgC 0 ((2 * n : Nat) : Int) 2 n := by
  have e : Builtin.Range.rangeSize 0 ((2 * n : Nat) : Int) 2 = (n : Int) := by
    unfold Builtin.Range.rangeSize
    rw [if_pos (by decide)]
    split <;> omega
  refine ⟨by decide, by decide, ?_, e⟩
  have f : ∀ z : Int, 0 ≤ z → z ≤ 3000000 → Builtin.Range.rangeFitsLong z = true := fun z a b => by
    unfold Builtin.Range.rangeFitsLong
    rw [decide_eq_true (show -(2 ^ 63) ≤ z by omega), decide_eq_true (show z < 2 ^ 63 by omega)]
    rfl
  unfold Builtin.Range.small
  rw [e, f 0 (by decide) (by decide), f ((2 * n : Nat) : Int) (by omega) (by omega), f 2 (by decide) (by decide), f (n : Int) (by omega) (by omega), if_pos (show ((2 : Int) > 0) by decide), f (((2 * n : Nat) : Int) + (2 - 1)) (by omega) (by omega), Bool.or_true]
  rfl
end
section
variable {P : Program} {w : World} {K : PySem.W.Frag} {mg : Str → Option Value} {base : Heap} {TT : List (Addr × Str)} {G : Bool} {k : Nat} {x : Str} {st : Stmt} {N ps : List Str} {sp : GDSp S}
end
section
variable {X : Cx} {TT : List (Addr × Str)} {E : XK} {k j : Nat} {G : Bool} {x : Str} {sp : GDSp S} {kws : List Keyword} {fr : GDA S} {p pos kpos : Pos} {ks : List Str}
end
end Aim
namespace Aim
open PySem PySem.Spec PyProof.Rows L2 RZ
open LamX (TabB)
section
variable {P : Program} {w : World} {K : PySem.W.Frag} {mg : Str → Option Value} {base : Heap} {TT : List (Addr × Str)}
variable {C fI AE CA CY : Addr}
def manyB (ps ys : List Str) (i : Nat) : Nat := if i % 2 = 1 then (deedsA ys).length else ps.length
def okB (ps ys : List Str) (i : Nat) (c : Nat) : Bool := decide (48 ≤ c ∧ c < 48 + manyB ps ys i)
def badB (ps ys : List Str) : Nat → List Nat → Option Nat
  | _, [] => none
  | i, c :: r => if okB ps ys i c = true then badB ps ys (i + 1) r else some i
def readA (ps ys : List Str) : List Nat → List (Str × Str)
  | c :: e :: r => (ps.getD (c - 48) "", (deedsA ys).getD (e - 48) "") :: readA ps ys r
  | _ => []
def codesB (b : Array UInt8) : List Nat := b.toList.map UInt8.toNat
theorem bytD_codes (b : Array UInt8) : bytD b = (codesB b).map fun c => .int (c : Nat) := by
  unfold bytD codesB
  rw [List.map_map]
  rfl
theorem codesB_len (b : Array UInt8) : (codesB b).length = b.size := by simp [codesB]
theorem badB_first {ps ys : List Str} : ∀ {cs : List Nat} {k i c : Nat}, cs[i]? = some c → okB ps ys (k + i) c = false → (∀ j e, j < i → cs[j]? = some e → okB ps ys (k + j) e = true) → badB ps ys k cs = some (k + i)
  | [], _, _, _, h, _, _ => by cases h
  | a :: r, k, 0, c, h, h2, _ => by
    cases h
    show (if okB ps ys k a = true then badB ps ys (k + 1) r else some k) = _
    rw [if_neg (by rw [show k = k + 0 from rfl, h2]; decide)]
    rfl
  | a :: r, k, i + 1, c, h, h2, h3 => by
    show (if okB ps ys k a = true then badB ps ys (k + 1) r else some k) = _
    rw [if_pos (show okB ps ys k a = true from h3 0 a (by omega) rfl)]
    have e : k + (i + 1) = k + 1 + i := by omega
    rw [e] at h2 ⊢
    exact badB_first (i := i) h h2 fun j e hj hh => by
      have := h3 (j + 1) e (by omega) hh
      rwa [show k + (j + 1) = k + 1 + j by omega] at this
theorem badB_none {ps ys : List Str} : ∀ {cs : List Nat} {k : Nat}, (∀ j e, cs[j]? = some e → okB ps ys (k + j) e = true) → badB ps ys k cs = none
  | [], _, _ => rfl
  | a :: r, k, h => by
    show (if okB ps ys k a = true then badB ps ys (k + 1) r else some k) = _
    rw [if_pos (show okB ps ys k a = true from h 0 a rfl)]
    exact badB_none fun j e hh => by
      have := h (j + 1) e hh
      rwa [show k + (j + 1) = k + 1 + j by omega] at this
theorem atI_strN {cs : List Str} {k : Nat} (h : k < cs.length) : atI (cs.map Dat.str) (k : Int) = some (.str (cs.getD k "")) := by
  have hl : (cs.map Dat.str).length = cs.length := List.length_map ..
  unfold atI ixN
  rw [if_pos (Int.natCast_nonneg k), if_pos (by rw [hl]; exact Int.ofNat_lt.mpr h)]
  show (cs.map Dat.str)[((k : Nat) : Int).toNat]? = _
  rw [Int.toNat_natCast, List.getElem?_map, List.getD_eq_getElem?_getD, List.getElem?_eq_getElem h]
  rfl
def pieceB (ps ys : List Str) (cs : List Nat) (k : Nat) : Str × Str := (ps.getD (cs.getD k 0 - 48) "", (deedsA ys).getD (cs.getD (k + 1) 0 - 48) "")
def pieceD (ps ys : List Str) (cs : List Nat) : Dat → Dat
  | .int k => aimD (pieceB ps ys cs k.toNat)
  | d => d
theorem read_pieces (ps ys : List Str) : ∀ (m : Nat) (cs : List Nat), cs.length = 2 * m → (List.range m).map (fun i => pieceB ps ys cs (2 * i)) = readA ps ys cs
  | 0, cs, h => by
    cases cs with
    | nil => rfl
    | cons a r => rw [List.length_cons] at h; omega
  | m + 1, cs, h => by
    match cs, h with
    | a :: b :: r, h =>
      have ih := read_pieces ps ys m r (by rw [List.length_cons, List.length_cons] at h; omega)
      rw [List.range_succ_eq_map, List.map_cons, List.map_map]
      show _ :: _ = (ps.getD (a - 48) "", (deedsA ys).getD (b - 48) "") :: readA ps ys r
      rw [← ih]
      refine congr (congrArg List.cons rfl) (List.map_congr_left fun i _ => ?_)
      show pieceB ps ys (a :: b :: r) (2 * (i + 1)) = _
      have e : 2 * (i + 1) = 2 * i + 1 + 1 := by omega
      rw [e]
      rfl
    | [a], h => rw [List.length_singleton] at h; omega
    | [], h => rw [List.length_nil] at h; omega
theorem getD_codes (b : Array UInt8) (k : Nat) : (b.toList.getD k 0).toNat = (codesB b).getD k 0 := by
  unfold codesB
  rw [List.getD_eq_getElem?_getD, List.getD_eq_getElem?_getD, List.getElem?_map]
  cases b.toList[k]? <;> rfl
theorem byt_orK {d : Dat} (h : Kd d) : (∃ b, d = .byt b) ∨ ∃ t, tyK d = some t ∧ isT "bytes" t = false := by
  cases d <;> first | exact .inl ⟨_, rfl⟩ | exact .inr ⟨_, rfl, rfl⟩ | cases h
def spReadAims (C CY : Addr) : DSp := fun ds n Q R => ∃ ps l rs ys d, ds = [progD C ps l rs ys, d] ∧ ps.length ≤ 10 ∧ ys.length ≤ 6 ∧ Kd d ∧ ((∀ b, d ≠ .byt b) → R CY (.int (-1)) n) ∧
  (∀ b, d = .byt b → b.size ≤ 2000 ∧ (∀ i, badB ps ys 0 (codesB b) = some i → R CY (.int (i : Nat)) n) ∧ (badB ps ys 0 (codesB b) = none → b.size % 2 = 1 → R CY (.int (b.size : Nat)) n) ∧
    (badB ps ys 0 (codesB b) = none → b.size % 2 = 0 → Q (.tup ((readA ps ys (codesB b)).map aimD)) n))
theorem sc_read_aims : FnScope ["program", "data", "places", "deeds", "index", "byte", "many", "at"] ["program", "data"] (defScope (top 37)) := ⟨rfl, rfl, rfl, by decide +kernel, rfl, by decide +kernel, by decide +kernel⟩
theorem ok_read_aims {G : Bool} (F : Has K mg "read_aims" (top 37)) (V_Program : ClsProgram K mg C) (T : Blt mg) (Y : CstB K mg) (Z : ErrB P K mg (inClass (top 23) 0) fI AE CA CY) (D_deeds_of : Df P w K mg base false 3 "deeds_of" (LSp K TT (spDeedsOf C))) : DfW P w K mg base G 4 "read_aims" (top 37) ["program", "data"] (LSp K TT (spReadAims C CY)) := by
  refine dat_okW F (fun f fd F => F.binds (fun _ _ _ _ _ _ us hl => by obtain ⟨x0, x1, rfl⟩ := us2 hl; rfl)) sc_read_aims (fun f cdv A outer s H E hr hG => ⟨_, (dss_cons (ds_if (dt_not (dt_val (de_cb (cd_isT (T := "bytes") (by simp)) (pe_callB call_isi rfl T.n_isinstance boot_isinstance (da_cons (de_var (pv 1)) (da_cons (de_c (pe_bltn (v := .ty "bytes") rfl T.n_bytes boot_bytes rfl) (fun _ _ => .ty _)) da_nil)))))) (dss_one (ds_raise (ps_raise rfl (takes_of rfl rfl rfl rfl) (pmk_aim Z.ini Z.c_BadBytes T.n_super (hr.mono (by decide)) rfl Z.m_BadBytes (de_neg de_int))))) dss_nil)
      (dss_cons (ds_names (is := [2, 3]) rfl (ps_asg (pe_tup (das_val (de_prp V_Program.p_places V_Program.cl hr sc_Program_places ⟨_, _, _, rfl⟩ (fun _ _ _ _ _ _ us hl => by obtain ⟨x0, rfl⟩ := us1 hl; rfl) (de_var (pv 0))) (das_val (de_call D_deeds_of hr (by first | decide | omega) (by first | exact hG | (intro z; cases z)) rfl (passes_call (takes_of rfl rfl rfl rfl) (fun _ _ _ _ h => h)) (da_cons (de_var (pv 0)) da_nil)) das_nil))) (pg_tup rfl (pgs_cons (pg_name (i := 2) sc_read_aims.nd rfl (Or.inr rfl)) (pgs_cons (pg_name (i := 3) sc_read_aims.nd rfl (Or.inr rfl)) pgs_nil)))))
      (dss_cons (ds_forI (passes_of rfl) rfl (di_enumB (pi_enumB rfl T.n_enumerate (da_cons (de_var (pv 1)) da_nil))) (dg_tup (n := 2) rfl (dgs_cons (dg_name (pg_name (i := 4) sc_read_aims.nd rfl (Or.inl rfl) (Or.inl rfl))) (dgs_cons (dg_name (pg_name (i := 5) sc_read_aims.nd rfl (Or.inl rfl) (Or.inl rfl))) dgs_nil)) (fun ds ρ P h => dgl_len (l := [4, 5]) h)) (dss_cons (ds_set (i := 6) sc_read_aims.nd rfl (Or.inl rfl) (de_if (dt_cmp (op_eqDD hr.units) od_eq (de_op op_odd od_odd (de_var (pv 4)) de_int) de_int (nomark _)) (de_cb cd_len (pe_callB call_len rfl T.n_len boot_len (da_cons (de_var (pv 3)) da_nil))) (de_cb cd_len (pe_callB call_len rfl T.n_len boot_len (da_cons (de_var (pv 2)) da_nil)))))
      (dss_one (ds_if (dt_not (dt_chain op_le op_lt (od_IB _) (od_IB _) (de_g rfl Y.g_ZERO) (de_var (pv 5)) (de_op op_addAny od_add (de_g rfl Y.g_ZERO) (de_var (pv 6))))) (dss_one (ds_raise (ps_raise rfl (takes_of rfl rfl rfl rfl) (pmk_aim Z.ini Z.c_BadBytes T.n_super (hr.mono (by decide)) rfl Z.m_BadBytes (de_var (pv 4)))))) dss_nil))))
      (dss_cons (ds_if (dt_cmp (op_eqDD hr.units) od_eq (de_op op_odd od_odd (de_cb cd_len (pe_callB call_len rfl T.n_len boot_len (da_cons (de_var (pv 1)) da_nil))) de_int) de_int (nomark _)) (dss_one (ds_raise (ps_raise rfl (takes_of rfl rfl rfl rfl) (pmk_aim Z.ini Z.c_BadBytes T.n_super (hr.mono (by decide)) rfl Z.m_BadBytes (de_cb cd_len (pe_callB call_len rfl T.n_len boot_len (da_cons (de_var (pv 1)) da_nil))))))) dss_nil)
      (dss_one (ds_ret (de_cb cd_tup (pe_callTy call_tupleN rfl T.n_tuple boot_tuple (da_cons (de_fr (lf_lcI (own := [("at", 7)]) rfl sc_read_aims.nd (di_rng3 (pi_range3 rfl T.n_range (da_cons de_int (da_cons (de_cb cd_len (pe_callB call_len rfl T.n_len boot_len (da_cons (de_var (pv 1)) da_nil))) (da_cons (de_g rfl Y.g_PAIR_codes) da_nil))))) (blkOk_by rfl) (fun _ _ _ _ _ => (dg_name (pg_name (i := 7) sc_read_aims.nd rfl (Or.inl rfl) (Or.inr rfl)))) (fun _ _ _ _ _ => dts_nil) (fun _ _ _ _ _ => (de_tup (da_cons (de_ix ix_seq od_ix (de_var (pv 2)) (de_op op_sub (od_II _) (de_bix (de_var (pv 1)) (de_var (pv 7)) (fun _ _ => rfl)) (de_g rfl Y.g_ZERO)) (fun _ _ => rfl)) (da_cons (de_ix ix_seq od_ix (de_var (pv 3)) (de_op op_sub (od_II _) (de_bix (de_var (pv 1)) (de_op op_addAny od_add (de_var (pv 7)) de_int) (fun _ _ => rfl)) (de_g rfl Y.g_ZERO)) (fun _ _ => rfl)) da_nil)))))) da_nil))))))))), fun ds n PP R h => ?_⟩) (fun ds n PP R h => ?_)
  · obtain ⟨ps, l, rs, ys, d, rfl, hp, hy, kd, kr, kb⟩ := h
    refine ⟨rfl, rfl, ?_⟩
    have dl : (deedsA ys).length = ys.length + 1 := rfl
    rcases byt_orK kd with ⟨b, rfl⟩ | ⟨t, e, e2⟩
    · skip
      obtain ⟨bz, k1, k2, k3⟩ := kb b rfl
      refine iteF (A := True) ?_
      refine ⟨rfl, ps, l, rs, ys, rfl, hy, ?_⟩
      refine ⟨rfl, by decide, ?_⟩
      have plen : (pairs (numL 0 b.size) (bytD b)).length = b.size := by rw [pairs_len, numL_len]; simp [bytD]
      refine ⟨fun i ρ' m' => ∃ s1 s2 s3 s4 : Sl, ρ' = [.val (progD C ps l rs ys), .val (.byt b), .val (namesD ps), .val (.tup ((deedsA ys).map .str)), s1, s2, s3, s4] ∧ m' = n ∧ ∀ j e, j < i → (codesB b)[j]? = some e → okB ps ys j e = true, ⟨_, _, _, _, rfl, rfl, fun j e hj => absurd hj (by omega)⟩, ?_, ?_⟩
      · rintro i p ρ' m' hp ⟨s1, s2, s3, s4, rfl, rfl, hs⟩
        obtain ⟨a, y, h1, h2, rfl⟩ := pairs_get hp
        rw [bytD_codes, List.getElem?_map] at h2
        cases hc : (codesB b)[i]? with
        | none => rw [hc] at h2; cases h2
        | some c =>
          rw [hc] at h2
          cases h2
          have hi : i < b.size := by
            have := (List.getElem?_eq_some_iff.mp hc).1
            rw [codesB_len] at this
            exact this
          rw [numL_get _ _ _ hi] at h1
          cases h1
          rw [Int.zero_add]
          refine ⟨i, rfl, rfl, ?_⟩
          have good : okB ps ys i c = true → ∀ j e, j < i + 1 → (codesB b)[j]? = some e → okB ps ys j e = true := fun q j e hj he => by
            rcases Nat.lt_succ_iff_lt_or_eq.mp hj with hj | rfl
            · exact hs j e hj he
            · rw [hc] at he
              cases he
              exact q
          have bad : okB ps ys i c = false → R CY (.int (i : Nat)) m' := fun q => by
            refine k1 i ?_
            have := badB_first (k := 0) hc (by rw [Nat.zero_add]; exact q) fun j e hj he => by rw [Nat.zero_add]; exact hs j e hj he
            rwa [Nat.zero_add] at this
          refine ⟨⟨cmp_fl rfl, cmp_fl rfl⟩, ?_⟩
          refine ite2 (fun ce => ?_) (fun ce => ?_)
          · have ce : i % 2 = 1 := by
              have : ((i % 2 : Nat) : Int) = 1 := by simpa [eqD, py, PyData.eqv] using ce
              omega
            have em : manyB ps ys i = (deedsA ys).length := if_pos ce
            refine ite2 (fun h1 => ?_) (fun h1 => ?_)
            · have h1 : (48 : Int) ≤ (c : Nat) := by simpa using h1
              refine ite2 (fun h2 => ?_) (fun h2 => ?_)
              · refine bad (decide_eq_false fun z => ?_)
                have h2 : ¬ (((c : Nat) : Int) < 48 + ((((deedsA ys).map Dat.str).length : Nat) : Int)) := by simpa using h2
                rw [em] at z
                rw [List.length_map] at h2
                omega
              · have h2 : ((c : Nat) : Int) < 48 + ((((deedsA ys).map Dat.str).length : Nat) : Int) := by simpa using h2
                refine ⟨_, _, _, _, rfl, rfl, good (decide_eq_true ?_)⟩
                rw [em]
                rw [List.length_map] at h2
                omega
            · have h1 : ¬ (48 : Int) ≤ (c : Nat) := by simpa using h1
              exact bad (decide_eq_false fun z => h1 (by omega))
          · have ce : ¬ i % 2 = 1 := by
              intro z
              rw [z] at ce
              exact absurd ce (by decide)
            have em : manyB ps ys i = ps.length := if_neg ce
            refine ite2 (fun h1 => ?_) (fun h1 => ?_)
            · have h1 : (48 : Int) ≤ (c : Nat) := by simpa using h1
              refine ite2 (fun h2 => ?_) (fun h2 => ?_)
              · refine bad (decide_eq_false fun z => ?_)
                have h2 : ¬ (((c : Nat) : Int) < 48 + (((ps.map Dat.str).length : Nat) : Int)) := by simpa using h2
                rw [em] at z
                rw [List.length_map] at h2
                omega
              · have h2 : ((c : Nat) : Int) < 48 + (((ps.map Dat.str).length : Nat) : Int) := by simpa using h2
                refine ⟨_, _, _, _, rfl, rfl, good (decide_eq_true ?_)⟩
                rw [em]
                rw [List.length_map] at h2
                omega
            · have h1 : ¬ (48 : Int) ≤ (c : Nat) := by simpa using h1
              exact bad (decide_eq_false fun z => h1 (by omega))
      · rintro ρ' m' ⟨s1, s2, s3, s4, rfl, rfl, hs⟩
        have all : badB ps ys 0 (codesB b) = none := badB_none fun j e he => by
          rw [Nat.zero_add]
          refine hs j e ?_ he
          have := (List.getElem?_eq_some_iff.mp he).1
          rw [codesB_len] at this
          rw [plen]
          exact this
        refine ⟨b.size, rfl, rfl, ⟨cmp_fl rfl, cmp_fl rfl⟩, ?_⟩
        refine ite2 (fun ce => ?_) (fun ce => ?_)
        · have ce : b.size % 2 = 1 := by
            have : ((b.size % 2 : Nat) : Int) = 1 := by simpa [eqD, py, PyData.eqv] using ce
            omega
          exact k2 all ce
        · have ce : b.size % 2 = 0 := by
            have z : ¬ b.size % 2 = 1 := fun z => by
              rw [z] at ce
              exact absurd ce (by decide)
            omega
          have hb : 2 * (b.size / 2) = b.size := by omega
          have sz : sizeLine = 16777216 := by decide +kernel
          have ok : ∀ j e, (codesB b)[j]? = some e → okB ps ys j e = true := fun j e he => by
            refine hs j e ?_ he
            have := (List.getElem?_eq_some_iff.mp he).1
            rw [codesB_len] at this
            rw [plen]
            exact this
          have at1 : ∀ k, k < b.size → ∃ c, (codesB b).getD k 0 = c ∧ 48 ≤ c ∧ c < 48 + manyB ps ys k := fun k hk => by
            have hk2 : k < (codesB b).length := by rw [codesB_len]; exact hk
            have := of_decide_eq_true (ok k _ (List.getElem?_eq_getElem hk2))
            refine ⟨_, rfl, ?_⟩
            rw [List.getD_eq_getElem?_getD, List.getElem?_eq_getElem hk2]
            exact this
          refine ⟨b.size / 2, by have z := rgc_two (n := b.size / 2) (by omega); rw [hb] at z; exact z, by omega, ?_⟩
          refine compI_map (pieceD ps ys (codesB b)) (fun d hd Q q => ?_) ?_
          · unfold stepL at hd
            obtain ⟨i, hi, rfl⟩ := List.mem_map.mp hd
            have hi := List.mem_range.mp hi
            obtain ⟨c, hc, c1, c2⟩ := at1 (2 * i) (by omega)
            obtain ⟨e, he, e1, e2⟩ := at1 (2 * i + 1) (by omega)
            have m1 : manyB ps ys (2 * i) = ps.length := if_neg (by omega)
            have m2 : manyB ps ys (2 * i + 1) = ys.length + 1 := if_pos (by omega)
            rw [m1] at c2
            rw [m2] at e2
            have q : Q (aimD (pieceB ps ys (codesB b) (2 * i))) m' := by
              have : (0 + ((i : Nat) : Int) * 2).toNat = 2 * i := by omega
              have q : Q (aimD (pieceB ps ys (codesB b) (0 + ((i : Nat) : Int) * 2).toNat)) m' := q
              rwa [this] at q
            have x1 : (((b.toList.getD (0 + ((i : Nat) : Int) * 2).toNat 0).toNat : Nat) : Int) - 48 = ((c - 48 : Nat) : Int) := by
              rw [getD_codes, show (0 + ((i : Nat) : Int) * 2).toNat = 2 * i by omega, hc]
              omega
            have x2 : (((b.toList.getD (0 + ((i : Nat) : Int) * 2 + 1).toNat 0).toNat : Nat) : Int) - 48 = ((e - 48 : Nat) : Int) := by
              rw [getD_codes, show (0 + ((i : Nat) : Int) * 2 + 1).toNat = 2 * i + 1 by omega, he]
              omega
            refine ⟨by omega, by omega, ?_⟩
            show optD (atI (ps.map Dat.str) ((((b.toList.getD (0 + ((i : Nat) : Int) * 2).toNat 0).toNat : Nat) : Int) - 48)) _
            rw [x1, atI_strN (by omega)]
            refine ⟨by omega, by omega, ?_⟩
            show optD (atI ((deedsA ys).map Dat.str) ((((b.toList.getD (0 + ((i : Nat) : Int) * 2 + 1).toNat 0).toNat : Nat) : Int) - 48)) _
            rw [x2, atI_strN (by rw [dl]; omega)]
            unfold pieceB aimD at q
            rw [hc, he] at q
            exact ⟨by show 2 ≤ sizeLine; decide, q⟩
          · have : (stepL 0 2 (b.size / 2)).map (pieceD ps ys (codesB b)) = (readA ps ys (codesB b)).map aimD := by
              rw [← read_pieces ps ys (b.size / 2) (codesB b) (by rw [codesB_len]; omega)]
              unfold stepL
              rw [List.map_map, List.map_map]
              refine List.map_congr_left fun i _ => ?_
              show aimD (pieceB ps ys (codesB b) (0 + ((i : Nat) : Int) * 2).toNat) = _
              rw [show (0 + ((i : Nat) : Int) * 2).toNat = 2 * i by omega]
              rfl
            rw [this]
            exact k3 all ce
    · refine opt_no e ?_
      show if (!isT "bytes" t) = true then _ else _
      rw [e2]
      refine iteT (kr fun b z => ?_)
      rw [z] at e
      cases e
      cases e2
  · obtain ⟨ps, l, rs, ys, d, rfl, _⟩ := h
    rfl
end
end Aim
namespace Aim
open PySem PySem.Spec PyProof.Rows L2
open LamX (TabB Tabs CodeO)
open Stt (cnt sto)
variable {S : Type} [Stt S]
section
variable {X : Cx} {TT : List (Addr × Str)} {E : XK}
theorem ds_names3 {i j l : Nat} {st : Stmt} {fs : GDAs S} (h : PS X st (tPar3 i j l (LAs X.K TT E fs))) : PS X st (LS X.K TT E (dNames [i, j, l] fs)) := h.imp fun D σ H q => by
  obtain ⟨ρ, n, P, R, rl, f, k, x⟩ := q.names
  refine ⟨ρ, n, P, R, rl, f, fun ss m vs H1 z e s nw => ?_, x⟩
  obtain ⟨l, _, q⟩ := k ss m vs H1 z e s nw
  have q2 := q H1 (.refl _)
  clear q
  obtain ⟨v, r, rfl, w, r2, rfl, u, r3, rfl, rfl, q⟩ := q2
  exact ⟨v, w, u, rfl, q⟩
end
end Aim
namespace Aim
open PySem PySem.Spec PyProof.Rows L2
theorem rising_pw : ∀ (p : Str) (l : List Str), risingS p l = true → (p :: l).Pairwise (fun a b : Str => ¬ (b.cps.toList < a.cps.toList))
  | p, [], _ => List.pairwise_singleton _ _
  | p, x :: r, h => by
    have h : (!ltCps x.cps.toList p.cps.toList && risingS x r) = true := h
    rw [Bool.and_eq_true, ltCps_eq] at h
    have h1 : ¬ (x.cps.toList < p.cps.toList) := by simpa using h.1
    have ih := rising_pw x r h.2
    refine List.pairwise_cons.mpr ⟨fun y hy => ?_, ih⟩
    rcases List.mem_cons.mp hy with rfl | hy
    · exact h1
    · have h2 := (List.pairwise_cons.mp ih).1 y hy
      exact fun z => h1 (List.lt_of_le_of_lt (List.not_lt.mp h2) z)
theorem sorted_pw {l : List Str} (h : sortedS l = true) : l.Pairwise (fun a b : Str => ¬ (b.cps.toList < a.cps.toList)) := by
  cases l with
  | nil => exact .nil
  | cons x r => exact rising_pw x r h
theorem sorted_one {xs ys : List Str} (n1 : xs.Nodup) (n2 : ys.Nodup) (s1 : sortedS xs = true) (s2 : sortedS ys = true) (h : ∀ k, k ∈ xs ↔ k ∈ ys) : xs = ys := by
  have p : xs.Perm ys := (List.perm_ext_iff_of_nodup n1 n2).mpr h
  refine p.eq_of_pairwise (fun a b _ _ h1 h2 => ?_) (sorted_pw s1) (sorted_pw s2)
  have e : a.cps.toList = b.cps.toList := List.le_antisymm (List.not_lt.mp h1) (List.not_lt.mp h2)
  cases a
  cases b
  simp at e
  rw [e]
end Aim
namespace Aim
open PySem PySem.Spec PyProof.Rows L2 RZ
open LamX (TabB)
section
variable {P : Program} {w : World} {K : PySem.W.Frag} {mg : Str → Option Value} {base : Heap} {TT : List (Addr × Str)}
mutual
/-- bounds the text that repr shows, and two more -/
def wt : Dat → Nat
  | .non => 6 | .bl _ => 7 | .int _ => 60
  | .str x => 10 * x.cps.size + 4
  | .tup xs => wts xs + 5 | .lst xs => wts xs + 5
  | .dct _ _ => 12
  | _ => 0
def wts : List Dat → Nat
  | [] => 0
  | x :: xs => wt x + wts xs
end
theorem wts_append : ∀ xs ys : List Dat, wts (xs ++ ys) = wts xs + wts ys
  | [], ys => by simp [wts]
  | x :: xs, ys => by simp [wts, wts_append xs ys]; omega
theorem wts_take : ∀ (xs : List Dat) (k : Nat), wts (xs.take k) ≤ wts xs
  | [], k => by simp [wts]
  | x :: xs, 0 => by simp [wts]
  | x :: xs, k + 1 => by simp [wts]; exact wts_take xs k
theorem wts_drop : ∀ (xs : List Dat) (k : Nat), wts (xs.drop k) ≤ wts xs
  | [], k => by simp [wts]
  | x :: xs, 0 => by simp [wts]
  | x :: xs, k + 1 => by
    have := wts_drop xs k
    simp [wts]
    omega
theorem wts_rev (xs : List Dat) : wts xs.reverse = wts xs := by
  induction xs with
  | nil => rfl
  | cons x xs ih =>
    rw [List.reverse_cons, wts_append, ih]
    simp [wts]
    omega
theorem wts_split : ∀ (xs : List Dat) (k : Nat) (x : Dat), xs[k]? = some x → wts (xs.take k) + wt x + wts (xs.drop (k + 1)) = wts xs
  | [], k, x, h => by simp at h
  | y :: xs, 0, x, h => by
    simp at h
    subst h
    simp [wts]
  | y :: xs, k + 1, x, h => by
    have z := wts_split xs k x (by simpa using h)
    simp [wts]
    omega
theorem wts_cut (xs : List Dat) (lo hi : Option Int) : wts (cutD xs lo hi) ≤ wts xs := by
  unfold cutD
  exact Nat.le_trans (wts_take _ _) (wts_drop _ _)
def bVal (I : Int → Prop) : Dat → Prop
  | .non => True | .bl _ => True
  | .int i => I i
  | .str x => StrB x
  | .dct ks xs => (ks = [] ∧ xs = []) ∨ (ks = [.inr "a"] ∧ xs = [.int 1])
  | _ => False
def BV (I : Int → Prop) (s : Nat) : Nat → Dat → Prop
  | 0, d => bVal I d
  | k + 1, d => bVal I d ∨ ∃ xs, (d = .tup xs ∨ d = .lst xs) ∧ xs.length ≤ s ∧ ∀ x ∈ xs, BV I s k x
theorem BV.val {I : Int → Prop} {s : Nat} {d : Dat} (h : bVal I d) : ∀ k, BV I s k d
  | 0 => h
  | _ + 1 => .inl h
theorem bVal.imp {I J : Int → Prop} {d : Dat} (h : bVal I d) (e : ∀ i, I i → J i) : bVal J d := by
  cases d <;> first | exact h | exact e _ h
theorem BV.imp {I J : Int → Prop} {s t : Nat} (e : ∀ i, I i → J i) (ht : s ≤ t) : ∀ {k : Nat} {d : Dat}, BV I s k d → BV J t (k + 2) d
  | 0, d, h => .val (bVal.imp h e) _
  | k + 1, d, h => by
    rcases h with h | ⟨xs, q, l, r⟩
    · exact .val (bVal.imp h e) _
    · exact .inr ⟨xs, q, by omega, fun x hx => (r x hx).imp e ht⟩
theorem BV.ty {I : Int → Prop} {s : Nat} : ∀ {k : Nat} {d : Dat}, BV I s k d → (tyK d).isSome = true
  | 0, d, h => by cases d <;> first | rfl | cases h
  | k + 1, d, h => by
    rcases h with h | ⟨xs, rfl | rfl, _⟩
    · cases d <;> first | rfl | cases h
    · rfl
    · rfl
structure OddI (J : Int → Prop) : Prop where
  a : J (-1)
  b : J 10
  c : J (10 ^ 40)
theorem odd_bv {J : Int → Prop} {s k : Nat} (hJ : OddI J) (hs : 1 ≤ s) : ∀ v ∈ oddL, BV J s (k + 2) v ∧ wt v ≤ 100 := fun v hv => by
  have e : (bVal J v ∧ wt v ≤ 100) ∨ v = .tup [.non] ∨ v = .tup [.tup []] ∨ v = .lst [] ∨ v = .lst [.str "a"] := by
    unfold oddL at hv
    simp only [List.mem_cons, List.not_mem_nil, or_false] at hv
    rcases hv with rfl | rfl | rfl | rfl | rfl | rfl | rfl | rfl | rfl | rfl | rfl | rfl | rfl | rfl | rfl <;>
      first
      | exact .inl ⟨trivial, by decide⟩
      | exact .inl ⟨hJ.a, by decide⟩
      | exact .inl ⟨hJ.b, by decide⟩
      | exact .inl ⟨hJ.c, by decide⟩
      | exact .inl ⟨strB_dec (by decide +kernel), by decide⟩
      | exact .inr (.inl rfl)
      | exact .inr (.inr (.inl rfl))
      | exact .inr (.inr (.inr (.inl rfl)))
      | exact .inr (.inr (.inr (.inr rfl)))
      | exact .inl ⟨.inl ⟨rfl, rfl⟩, by decide⟩
      | exact .inl ⟨.inr ⟨rfl, rfl⟩, by decide⟩
  rcases e with e | rfl | rfl | rfl | rfl
  · exact ⟨.val e.1 _, e.2⟩
  · exact ⟨.inr ⟨_, .inl rfl, hs, fun x hx => by rw [List.mem_singleton.mp hx]; exact .val (d := .non) trivial _⟩, by decide⟩
  · exact ⟨.inr ⟨_, .inl rfl, hs, fun x hx => by rw [List.mem_singleton.mp hx]; exact .inr ⟨_, .inl rfl, Nat.zero_le _, fun x hx => by simp at hx⟩⟩, by decide⟩
  · exact ⟨.inr ⟨_, .inr rfl, Nat.zero_le _, fun x hx => by simp at hx⟩, by decide⟩
  · exact ⟨.inr ⟨_, .inr rfl, hs, fun x hx => by rw [List.mem_singleton.mp hx]; exact .val (d := .str "a") (strB_dec (by decide +kernel)) _⟩, by decide⟩
theorem odd_wt : ∀ v ∈ oddL, wt v ≤ 100 := fun v hv => (odd_bv (J := fun _ => True) (s := 1) (k := 0) ⟨trivial, trivial, trivial⟩ (by decide) v hv).2
end
theorem strB_ofString {x : String} (h : x.length ≤ sizeLine) : StrB (Str.ofString x) := by
  refine ⟨by rw [PySem.ofString_length]; exact h, ?_⟩
  rw [Str.ofString_eq_toList]
  show ((x.toList.map Char.toNat).toArray).all _ = true
  rw [Array.all_eq_true']
  intro c hc
  rw [List.mem_toArray] at hc
  obtain ⟨d, _, rfl⟩ := List.mem_map.mp hc
  rw [decide_eq_true_eq]
  have v : d.val.toNat < 0xd800 ∨ 0xdfff < d.val.toNat ∧ d.val.toNat < 0x110000 := d.valid
  show d.val.toNat < _
  omega
theorem ten50 : (10 : Nat) ^ 50 < 2 ^ 200 := by decide
theorem strI {i : Int} (h : i.natAbs < 10 ^ 50) : StrB (toString i : Str) ∧ (toString i : Str).cps.size ≤ 51 ∧ i.natAbs.log2 < 1920 := by
  have e := int_text_length_le10 (k := 50) (by decide) h
  have l : (Str.ofString (toString i)).length ≤ 51 := by
    rw [PySem.ofString_length]
    exact e
  refine ⟨strB_ofString (Nat.le_trans e (by decide +kernel)), l, ?_⟩
  by_cases z : i.natAbs = 0
  · rw [z]
    decide
  · refine Nat.lt_trans ((Nat.log2_lt z).mpr (Nat.lt_trans h ten50)) (by decide)
theorem isNm_B {z : Str} (h : isNm z) : StrB z := by
  refine ⟨by have := h.2.1; show z.cps.size ≤ _; exact Nat.le_trans this (by decide +kernel), ?_⟩
  rw [Array.all_eq_true']
  intro c hc
  have := h.2.2 c (by simpa using hc)
  unfold isLet at this
  rw [decide_eq_true_eq]
  omega
theorem cutS_lenB (x : Str) (lo hi : Option Int) : (cutS x lo hi).cps.size ≤ x.cps.size := by
  unfold cutS
  show (List.toArray _).size ≤ _
  rw [List.size_toArray, List.length_take, List.length_drop, Array.length_toList]
  omega
section
variable {I : Int → Prop} {s : Nat}
def Shows (k : Nat) (d : Dat) : Prop := okR d = true ∧ (pyR d).showable = true ∧ (pyR d).depth ≤ k + 1 ∧ (pyR d).shown.length + 2 ≤ wt d
theorem val_shows (hI : ∀ i, I i → i.natAbs < 10 ^ 50) (k : Nat) : ∀ {d : Dat}, bVal I d → Shows k d
  | .non, _ => ⟨rfl, by simp [pyR, PyData.showable], by simp [pyR, PyData.depth], by show _ ≤ 6; simp only [pyR, PyData.shown]; decide⟩
  | .bl b, _ => ⟨rfl, by simp [pyR, PyData.showable], by simp [pyR, PyData.depth], by show _ ≤ 7; simp only [pyR, PyData.shown]; cases b <;> decide⟩
  | .int i, h => by
    have z := strI (hI i h)
    refine ⟨rfl, by simp only [pyR, PyData.showable]; exact decide_eq_true z.2.2, by simp [pyR, PyData.depth], ?_⟩
    simp only [pyR, PyData.shown]
    have := z.2.1
    show (toString i : Str).cps.size + 2 ≤ 60
    omega
  | .str x, h => by
    refine ⟨rfl, by simp [pyR, PyData.showable], by simp [pyR, PyData.depth], ?_⟩
    simp only [pyR, PyData.shown]
    have z := StrLaws.reprText_len x fun c hc => by
      have q := h.2
      rw [Array.all_eq_true'] at q
      have := of_decide_eq_true (q c (by simpa using hc))
      omega
    show _ ≤ 10 * x.cps.size + 4
    have e : x.length = x.cps.size := rfl
    omega
  | .dct ks xs, h => by
    rcases h with ⟨rfl, rfl⟩ | ⟨rfl, rfl⟩
    · exact ⟨rfl, by decide +kernel, by show PyData.depth _ ≤ _; simp [pyR, pyRs, PyData.depth, PyData.depthKv], by decide +kernel⟩
    · exact ⟨rfl, by decide +kernel, by simp [pyR, pyRs, PyData.depth, PyData.depthKv, keyD], by decide +kernel⟩
theorem shows_list {k : Nat} : ∀ {xs : List Dat}, (∀ x ∈ xs, Shows k x) → okRs xs = true ∧ PyData.showableAll (pyRs xs) = true ∧ PyData.depthAll (pyRs xs) ≤ k + 1 ∧ piled (PyData.shownAll (pyRs xs)) ≤ wts xs
  | [], _ => ⟨rfl, rfl, Nat.zero_le _, Nat.le_refl _⟩
  | x :: xs, h => by
    obtain ⟨a1, a2, a3, a4⟩ := h x List.mem_cons_self
    obtain ⟨b1, b2, b3, b4⟩ := shows_list fun y hy => h y (List.mem_cons_of_mem _ hy)
    refine ⟨by simp [okRs, a1, b1], by simp [pyRs, PyData.showableAll, a2, b2], ?_, ?_⟩
    · show max _ _ ≤ _
      exact Nat.max_le.mpr ⟨a3, b3⟩
    · show piled ((pyR x).shown :: PyData.shownAll (pyRs xs)) ≤ wt x + wts xs
      rw [piled_cons]
      omega
theorem BV.shows (hI : ∀ i, I i → i.natAbs < 10 ^ 50) : ∀ {k : Nat} {d : Dat}, BV I s k d → Shows k d
  | 0, _, h => val_shows hI 0 h
  | k + 1, d, h => by
    rcases h with h | ⟨xs, e, l, q⟩
    · exact val_shows hI (k + 1) h
    · obtain ⟨b1, b2, b3, b4⟩ := shows_list fun x hx => (q x hx).shows hI
      have jl : ∀ ts : List Str, (Str.join ", " ts).length ≤ piled ts := fun ts => by
        by_cases z : ts = []
        · subst z
          decide
        · have := join_length_add ts z
          omega
      have j := jl (PyData.shownAll (pyRs xs))
      rcases e with rfl | rfl
      · refine ⟨b1, b2, by show PyData.depthAll (pyRs xs) + 1 ≤ _; omega, ?_⟩
        show (tupleText (PyData.shownAll (pyRs xs))).length + 2 ≤ wts xs + 5
        unfold tupleText
        rw [strLen_append, strLen_append]
        have e1 : ((("(" : String) : Str)).length = 1 := rfl
        have e3 : ∀ b : Bool, (((if b = true then ",)" else ")" : String) : Str)).length ≤ 2 := fun b => by cases b <;> decide
        have := e3 ((PyData.shownAll (pyRs xs)).length == 1)
        omega
      · refine ⟨b1, b2, by show PyData.depthAll (pyRs xs) + 1 ≤ _; omega, ?_⟩
        show (listText (PyData.shownAll (pyRs xs))).length + 2 ≤ wts xs + 5
        rw [listText_eq_join, strLen_append, strLen_append]
        have e1 : ((("[" : String) : Str)).length = 1 := rfl
        have e2 : ((("]" : String) : Str)).length = 1 := rfl
        omega
theorem BV.showD (hI : ∀ i, I i → i.natAbs < 10 ^ 50) {k : Nat} {d : Dat} (h : BV I s k d) (hk : k ≤ 39) (hw : wt d ≤ 16000000) : ShowD d := by
  obtain ⟨h1, h2, h3, h4⟩ := h.shows hI
  have sz : sizeLine = 16777216 := by decide +kernel
  exact ⟨h1, h2, by omega, by omega⟩
end
end Aim
namespace Aim
open PySem PySem.Spec PyProof.Rows L2 RZ
open LamX (TabB)
section
variable {P : Program} {w : World} {K : PySem.W.Frag} {mg : Str → Option Value} {base : Heap} {TT : List (Addr × Str)}
end
end Aim
namespace Aim
open PySem PySem.Spec PyProof.Rows L2 RZ
open LamX (TabB)
section
variable {P : Program} {w : World} {K : PySem.W.Frag} {mg : Str → Option Value} {base : Heap} {TT : List (Addr × Str)}
variable {C fI AE CA CY : Addr}
def wideL (xs zs : List Str) : List (Str × Dat × Str) := List.zipWith (fun x z => (x, Dat.str "up", z)) xs zs
def upD : Dat → Dat
  | .tup [x, z] => .tup [x, .str "up", z]
  | d => d
def roomR : Dat := .tup [.str "r", .tup [], .tup [], .tup []]
theorem wide_names : ∀ {xs zs : List Str}, xs.length = zs.length → namesP (wideL xs zs) = xs
  | [], [], _ => rfl
  | x :: xs, z :: zs, h => by
    show x :: namesP (wideL xs zs) = _
    rw [wide_names (by rw [List.length_cons, List.length_cons] at h; omega)]
theorem wide_len {xs zs : List Str} (h : xs.length = zs.length) : (wideL xs zs).length = xs.length := by
  have := congrArg List.length (wide_names h)
  unfold namesP at this
  rwa [List.length_map] at this
theorem wide_mem : ∀ {xs zs : List Str} {p : Str × Dat × Str}, p ∈ wideL xs zs → p.2.1 = .str "up" ∧ p.2.2 ∈ zs
  | x :: xs, z :: zs, p, h => by
    rcases List.mem_cons.mp (show p ∈ (x, Dat.str "up", z) :: wideL xs zs from h) with rfl | h
    · exact ⟨rfl, by simp⟩
    · have := wide_mem h
      exact ⟨this.1, List.mem_cons_of_mem _ this.2⟩
  | [], _, p, h => by
    cases h
  | x :: xs, [], p, h => by
    cases h
theorem wide_ok {ps xs zs : List Str} (pn : ps.Nodup) (pm : ∀ x ∈ ps, isNameS x = true) (pl : ps.length = 4) (xn : xs.Nodup) (xm : ∀ x ∈ xs, isNameS x = true) (xl : xs.length = 6) (zm : ∀ x ∈ zs, isNameS x = true) (zl : zs.length = 6) : WOk ps (wideL xs zs) [roomR] where
  pn := pn
  pm := pm
  pl := by omega
  ln := by rw [wide_names (xl.trans zl.symm)]; exact xn
  lm := by rw [wide_names (xl.trans zl.symm)]; exact xm
  lp := fun p hp => ⟨by rw [(wide_mem hp).1]; rfl, .inl (zm _ (wide_mem hp).2)⟩
  ll := by rw [wide_len (xl.trans zl.symm)]; omega
  rl := by simp
  rt := ⟨["r"], rfl, by simp, fun x hx => by rw [List.mem_singleton.mp hx]; decide +kernel, fun r hr => by
    rw [List.mem_singleton.mp hr]
    exact ⟨rfl, rfl⟩⟩
  ru := ⟨[], rfl, by simp, List.nodup_nil, fun x hx => nomatch hx⟩
def spWide : DSp := fun ds n Q _ => ds = [.pot] ∧ n < 800000 ∧ ∀ ps l rs m, WOk ps l rs → n ≤ m → m ≤ n + 2000 → Q (.tup [namesD ps, partsD l, .tup rs]) m
theorem sc__law_wide : FnScope ["_law_pot_here", "_law_some", "_law_spots", "_law_names_here", "_law_deeds_here", "_law_name_here", "_law_deed"] ["_law_pot_here"] (defScope (top 83)) := ⟨rfl, rfl, rfl, by decide +kernel, rfl, by decide +kernel, by decide +kernel⟩
theorem ok_wide {G : Bool} (F : Has K mg "_law_wide" (top 83)) (T : Blt mg) (D__law_names : Df P w K mg base false 5 "_law_names" (LSpF K TT spNamesW)) : Df P w K mg base G 6 "_law_wide" (LSp K TT spWide) := by
  refine dat_ok F (fun f fd F => F.binds (fun _ _ _ _ _ _ us hl => by obtain ⟨x0, rfl⟩ := us1 hl; rfl)) sc__law_wide (fun f cdv A outer s H E hr hG => ⟨_, (dss_cons (ds_names3 (ps_par3 (i := 2) (j := 3) (l := 4) rfl sc__law_wide.nd rfl rfl rfl (by decide) (by decide) (by decide) rfl rfl rfl (das_val (de_fr (lf_call D__law_names hr (by first | decide | omega) (by first | exact hG | (intro z; cases z)) rfl passL (da_cons (de_var (pv 0)) (da_cons de_int (da_cons (de_lst da_nil) da_nil))))) (das_val (de_fr (lf_call D__law_names hr (by first | decide | omega) (by first | exact hG | (intro z; cases z)) rfl passL (da_cons (de_var (pv 0)) (da_cons de_int (da_cons (de_lst da_nil) da_nil))))) (das_val (de_fr (lf_call D__law_names hr (by first | decide | omega) (by first | exact hG | (intro z; cases z)) rfl passL (da_cons (de_var (pv 0)) (da_cons de_int (da_cons (de_lst da_nil) da_nil))))) das_nil))) (by rfl)))
      (dss_cons (ds_set (i := 1) sc__law_wide.nd rfl (Or.inl rfl) (de_cb cd_tup (pe_callTy call_tupleN rfl T.n_tuple boot_tuple (da_cons (de_fr (lf_lcI (own := [("_law_name_here", 5), ("_law_deed", 6)]) rfl sc__law_wide.nd (di_zip (pi_zipN rfl T.n_zip (da_cons (de_var (pv 3)) (da_cons (de_var (pv 4)) da_nil)))) (blkOk_by rfl) (fun _ _ _ _ _ => (dg_tup (n := 2) rfl (dgs_cons (dg_name (pg_name (i := 5) sc__law_wide.nd rfl (Or.inl rfl) (Or.inr rfl))) (dgs_cons (dg_name (pg_name (i := 6) sc__law_wide.nd rfl (Or.inl rfl) (Or.inr rfl))) dgs_nil)) (fun ds ρ P h => dgl_len (l := [5, 6]) h))) (fun _ _ _ _ _ => dts_nil) (fun _ _ _ _ _ => (de_tup (da_cons (de_var (pv 5)) (da_cons de_str (da_cons (de_var (pv 6)) da_nil))))))) da_nil))))
      (dss_one (ds_ret (de_tup (da_cons (de_cb cd_tup (pe_callTy call_tupleN rfl T.n_tuple boot_tuple (da_cons (de_var (pv 2)) da_nil))) (da_cons (de_var (pv 1)) (da_cons (de_tup (da_cons (de_tup (da_cons de_str (da_cons (de_tup da_nil) (da_cons (de_tup da_nil) (da_cons (de_tup da_nil) da_nil))))) da_nil)) da_nil)))))))), fun ds n PP R h => ?_⟩) (fun ds n PP R h => ?_)
  · obtain ⟨rfl, hn, k⟩ := h
    refine ⟨rfl, ?_⟩
    refine ⟨Nat.zero_le _, 4, [], rfl, by decide, by decide, by omega, fun ps m1 a1 b1 l1 nd1 h1 => ?_⟩
    refine ⟨Nat.zero_le _, 6, [], rfl, by decide, by decide, by omega, fun xs m2 a2 b2 l2 nd2 h2 => ?_⟩
    refine ⟨Nat.zero_le _, 6, [], rfl, by decide, by decide, by omega, fun zs m3 a3 b3 l3 nd3 h3 => ?_⟩
    have sz : sizeLine = 16777216 := by decide +kernel
    have xl : (xs.map Dat.str).length = 6 := by rw [List.length_map, l2]
    have zl : (zs.map Dat.str).length = 6 := by rw [List.length_map, l3]
    refine ⟨rfl, by decide, ?_⟩
    refine compI_map upD (fun d hd Q q => ?_) ?_
    · obtain ⟨i, hi⟩ := List.mem_iff_getElem?.mp hd
      obtain ⟨a, b, h4, h5, rfl⟩ := pairs_get hi
      obtain ⟨x, _, rfl⟩ := List.mem_map.mp (List.mem_of_getElem? h4)
      obtain ⟨z, _, rfl⟩ := List.mem_map.mp (List.mem_of_getElem? h5)
      exact ⟨by show 3 ≤ sizeLine; decide, q⟩
    have e1 : (pairs (xs.map Dat.str) (zs.map Dat.str)).map upD = (wideL xs zs).map fun p => Dat.tup [.str p.1, p.2.1, .str p.2.2] := by
      unfold pairs wideL
      rw [List.zipWith_map, List.map_zipWith, List.map_zipWith]
      rfl
    rw [e1]
    have wl := wide_len (xs := xs) (zs := zs) (l2.trans l3.symm)
    have k := k ps (wideL xs zs) [roomR] m3 (wide_ok nd1 (fun x hx => (h1 x hx).1) l1 nd2 (fun x hx => (h2 x hx).1) l2 (fun x hx => (h3 x hx).1) l3) (by omega) (by omega)
    exact ⟨Nat.zero_le _, Nat.zero_le _, Nat.zero_le _, by show 4 ≤ sizeLine; decide, by show 1 ≤ sizeLine; decide, by show 3 ≤ sizeLine; decide, k⟩
  · obtain ⟨rfl, _⟩ := h
    rfl
def spLDeeds : DSp := fun ds n Q _ => ∃ ps l rs ys, ds = [.tup [namesD ps, partsD l, .tup rs]] ∧ l.length ≤ 6 ∧ DeedsOf l ys ∧ Q (.lst ((deedsA ys).map .str)) n
theorem sc__law_deeds : FnScope ["_law_world_here", "_law_row"] ["_law_world_here"] (defScope (top 84)) := ⟨rfl, rfl, rfl, by decide +kernel, rfl, by decide +kernel, by decide +kernel⟩
theorem ok_law_deeds {G : Bool} (F : Has K mg "_law_deeds" (top 84)) (T : Blt mg) : Df P w K mg base G 1 "_law_deeds" (LSp K TT spLDeeds) := by
  refine dat_ok F (fun f fd F => F.binds (fun _ _ _ _ _ _ us hl => by obtain ⟨x0, rfl⟩ := us1 hl; rfl)) sc__law_deeds (fun f cdv A outer s H E hr hG => ⟨_, (dss_one (ds_ret (de_op op_addAny od_add (de_lst (da_cons de_str da_nil)) (de_fr (lf_sortSet (pe_callB (cr_sortSS rfl) rfl T.n_sorted boot_sorted (pa_cons (pe_callTy (cr_setOfS rfl) rfl T.n_set boot_set (pa_cons (de_fr (lf_lcI (own := [("_law_row", 1)]) rfl sc__law_deeds.nd (di_tup (de_ix ix_seq od_ix (de_var (pv 0)) de_int (fun _ _ => rfl))) (blkOk_by rfl) (fun _ _ _ _ _ => (dg_name (pg_name (i := 1) sc__law_deeds.nd rfl (Or.inl rfl) (Or.inr rfl)))) (fun _ _ _ _ _ => (dts_one (dt_cmp (op_neDD hr.units) od_ne (de_ix ix_seq od_ix (de_var (pv 1)) de_int (fun _ _ => rfl)) de_str (nomark _)))) (fun _ _ _ _ _ => (de_ix ix_seq od_ix (de_var (pv 1)) de_int (fun _ _ => rfl))))) pa_nil)) pa_nil))))))), fun ds n PP R h => ?_⟩) (fun ds n PP R h => ?_)
  · obtain ⟨ps, l, rs, ys, rfl, hl, D, k⟩ := h
    refine ⟨rfl, ?_⟩
    refine ⟨by show 1 ≤ sizeLine; decide, ?_⟩
    have lp : (deedsP l).length ≤ 6 := by
      unfold deedsP
      rw [List.length_map]
      have := List.length_filter_le (fun p : Str × Dat × Str => decide (p.2.2 ≠ ("" : Str))) l
      omega
    refine compI_pure deedOf (fun p hp Q Z q z => ?_) ?_
    · obtain ⟨y, _, rfl⟩ := List.mem_map.mp hp
      refine ⟨⟨cmp_fl rfl, cmp_fl rfl⟩, ?_⟩
      rw [eqD_str]
      have q1 : (if decide (y.2.2 ≠ ("" : Str)) = true then some (Dat.str y.2.2) else none) = some (.str y.2.2) → Q (.str y.2.2) n := q (.str y.2.2)
      replace z : (if decide (y.2.2 ≠ ("" : Str)) = true then some (Dat.str y.2.2) else none) = none → Z n := z
      by_cases hz : y.2.2 = ""
      · rw [hz]
        rw [hz] at z
        exact z rfl
      · rw [beq_eq_false_iff_ne.mpr hz]
        rw [if_pos (decide_eq_true hz)] at q1
        exact q1 rfl
    rw [deedOf_map]
    refine txts_map _ ⟨by show (deedsP l).length < 64; omega, fun zs nd hm st => ?_⟩
    obtain rfl : ys = zs := sorted_one D.nd nd D.st st fun j => (D.mem j).trans (hm j).symm
    have z := List.Nodup.length_le_of_subset D.nd (fun j hj => (D.mem j).mp hj)
    have sz : sizeLine = 16777216 := by decide +kernel
    refine ⟨?_, k⟩
    rw [List.length_map]
    show 1 + ys.length ≤ _
    omega
  · obtain ⟨ps, l, rs, ys, rfl, _⟩ := h
    rfl
theorem DeedsOf.few {l : List (Str × Dat × Str)} {ys : List Str} (D : DeedsOf l ys) (hl : l.length ≤ 6) : ys.length ≤ 6 := by
  have lp : (deedsP l).length ≤ 6 := by
    unfold deedsP
    rw [List.length_map]
    have := List.length_filter_le (fun p : Str × Dat × Str => decide (p.2.2 ≠ ("" : Str))) l
    omega
  have z := List.Nodup.length_le_of_subset D.nd (fun j hj => (D.mem j).mp hj)
  omega
def spLAims : DSp := fun ds n Q _ => ∃ ps l rs ys, ∃ k : Nat, ds = [.pot, .tup [namesD ps, partsD l, .tup rs], .int k] ∧ WOk ps l rs ∧ DeedsOf l ys ∧ k ≤ 20 ∧ n < 900000 ∧ ∀ as m, AimsOk ps ys as → as.length ≤ k → n ≤ m → m ≤ n + 100 → Q (.tup (as.map aimD)) m
theorem sc__law_aims : FnScope ["_law_pot_here", "_law_world_here", "_law_most", "_law_deeds_here", "_law_turn"] ["_law_pot_here", "_law_world_here", "_law_most"] (defScope (top 85)) := ⟨rfl, rfl, rfl, by decide +kernel, rfl, by decide +kernel, by decide +kernel⟩
theorem ok_law_aims {G : Bool} (F : Has K mg "_law_aims" (top 85)) (T : Blt mg) (D__law_take : Df P w K mg base false 1 "_law_take" (LSp K TT spTake)) (D__law_of : Df P w K mg base false 2 "_law_of" (LSp K TT spOf)) (D__law_deeds : Df P w K mg base false 1 "_law_deeds" (LSp K TT spLDeeds)) : Df P w K mg base G 3 "_law_aims" (LSp K TT spLAims) := by
  refine dat_ok F (fun f fd F => F.binds (fun _ _ _ _ _ _ us hl => by obtain ⟨x0, x1, x2, rfl⟩ := us3 hl; rfl)) sc__law_aims (fun f cdv A outer s H E hr hG => ⟨_, (dss_cons (ds_set (i := 3) sc__law_aims.nd rfl (Or.inr rfl) (de_call D__law_deeds hr (by first | decide | omega) (by first | exact hG | (intro z; cases z)) rfl passL (da_cons (de_var (pv 1)) da_nil)))
      (dss_one (ds_ret (de_cb cd_tup (pe_callTy call_tupleN rfl T.n_tuple boot_tuple (da_cons (de_fr (lf_lcI (own := [("_law_turn", 4)]) rfl sc__law_aims.nd (di_rng1 (pi_range1 rfl T.n_range (da_cons (de_call D__law_take hr (by first | decide | omega) (by first | exact hG | (intro z; cases z)) rfl passL (da_cons (de_var (pv 0)) (da_cons (de_op op_addAny od_add (de_var (pv 2)) de_int) da_nil))) da_nil))) (blkOk_by rfl) (fun _ _ _ _ _ => (dg_name (pg_name (i := 4) sc__law_aims.nd rfl (Or.inl rfl) (Or.inr rfl)))) (fun _ _ _ _ _ => dts_nil) (fun _ _ _ _ _ => (de_tup (da_cons (de_call D__law_of hr (by first | decide | omega) (by first | exact hG | (intro z; cases z)) rfl passL (da_cons (de_var (pv 0)) (da_cons (de_ix ix_seq od_ix (de_var (pv 1)) de_int (fun _ _ => rfl)) da_nil))) (da_cons (de_call D__law_of hr (by first | decide | omega) (by first | exact hG | (intro z; cases z)) rfl passL (da_cons (de_var (pv 0)) (da_cons (de_var (pv 3)) da_nil))) da_nil)))))) da_nil)))))), fun ds n PP R h => ?_⟩) (fun ds n PP R h => ?_)
  · obtain ⟨ps, l, rs, ys, kk, rfl, W, D, hk, hn, k⟩ := h
    refine ⟨rfl, ?_⟩
    refine ⟨ps, l, rs, ys, rfl, W.ll.2, D, ?_⟩
    refine ⟨_, rfl, by omega, by omega, by omega, fun r r0 r1 => ?_⟩
    have r20 : r ≤ 20 := by omega
    have few := D.few W.ll.2
    have pl := W.pl
    refine ⟨⟨by omega, by omega⟩, ?_⟩
    refine ⟨fun i acc j => ∃ as, acc = as.map aimD ∧ AimsOk ps ys as ∧ as.length = i ∧ n + 1 ≤ j ∧ j ≤ n + 1 + 2 * i, ⟨[], rfl, (fun a h => nomatch h), rfl, by omega, by omega⟩, ?_, ?_⟩
    · rintro i d acc j hd ⟨as, rfl, ok, hl, j1, j2⟩
      have hi := (List.getElem?_eq_some_iff.mp hd).1
      rw [numL_len] at hi
      have jb : j < 950000 := by omega
      refine ⟨_, .inr rfl, by omega, by rw [List.length_map]; omega, by rw [List.length_map]; omega, fun v hv => ?_⟩
      obtain ⟨p, hp, rfl⟩ := List.mem_map.mp hv
      refine ⟨_, .inl rfl, by omega, by rw [List.length_map]; show 0 < ys.length + 1; omega, by rw [List.length_map]; show ys.length + 1 ≤ _; omega, fun v hv => ?_⟩
      obtain ⟨y, hy, rfl⟩ := List.mem_map.mp hv
      refine ⟨by show 2 ≤ sizeLine; decide, as ++ [(p, y)], by rw [List.map_append]; rfl, fun a ha => ?_, by rw [List.length_append, hl]; rfl, by omega, by omega⟩
      rcases List.mem_append.mp ha with ha | ha
      · exact ok a ha
      · rw [List.mem_singleton.mp ha]
        exact ⟨hp, hy⟩
    · rintro acc j ⟨as, rfl, ok, hl, j1, j2⟩
      rw [numL_len] at hl j2
      exact k as j ok (by omega) (by omega) (by omega)
  · obtain ⟨ps, l, rs, ys, kk, rfl, _⟩ := h
    rfl
def codeD (b : Array UInt8) : Dat → Dat
  | .int i => .int ((codesB b).getD i.toNat 0 : Nat)
  | d => d
end
end Aim
namespace Aim
open PySem PySem.Spec PyProof.Rows L2 RZ
open LamX (TabB)
section
variable {P : Program} {w : World} {K : PySem.W.Frag} {mg : Str → Option Value} {base : Heap} {TT : List (Addr × Str)}
variable {C fI AE CA CY : Addr}
mutual
theorem sameD_refl : ∀ {n : Nat} {d : Dat}, Lvl n d → plain d = true → sameD d d = true
  | _, .non, _, _ => rfl
  | _, .bl b, _, _ => beq_self_eq_true b
  | _, .int i, _, _ => beq_self_eq_true i
  | _, .str x, _, _ => beq_self_eq_true x
  | n, .tup xs, h, p => sameDs_refl (n := n) xs fun x hx => by
    cases n with
    | zero => cases h
    | succ n => exact ⟨n, Nat.le_succ _, lvl_inner h (.inl rfl) x hx, plains_mem p x hx⟩
  | n, .lst xs, h, p => sameDs_refl (n := n) xs fun x hx => by
    cases n with
    | zero => cases h
    | succ n => exact ⟨n, Nat.le_succ _, lvl_inner h (.inr rfl) x hx, plains_mem p x hx⟩
theorem sameDs_refl : ∀ {n : Nat} (xs : List Dat), (∀ x ∈ xs, ∃ m, m ≤ n ∧ Lvl m x ∧ plain x = true) → sameDs xs xs = true
  | _, [], _ => rfl
  | n, x :: xs, h => by
    obtain ⟨m, _, h1, h2⟩ := h x (by simp)
    show (sameD x x && sameDs xs xs) = true
    rw [sameD_refl h1 h2, sameDs_refl xs fun y hy => h y (by simp [hy])]
    rfl
end
theorem aimD_inj {a b : Str × Str} (h : aimD a = aimD b) : a = b := by
  unfold aimD at h
  obtain ⟨a1, a2⟩ := a
  obtain ⟨b1, b2⟩ := b
  cases h
  rfl
theorem aims_inj : ∀ {as bs : List (Str × Str)}, as.map aimD = bs.map aimD → as = bs
  | [], [], _ => rfl
  | a :: as, b :: bs, h => by
    rw [List.map_cons, List.map_cons] at h
    injection h with h1 h2
    rw [aimD_inj h1, aims_inj h2]
  | [], b :: bs, h => by cases h
  | a :: as, [], h => by cases h
theorem kn_aims {as : List (Str × Str)} (h : as.length ≤ 2000) : Kn 2 (.tup (as.map aimD)) := ⟨rfl, fun xs e => by
  cases e
  refine ⟨by rw [List.length_map]; exact h, fun x hx => ?_⟩
  obtain ⟨a, _, rfl⟩ := List.mem_map.mp hx
  refine ⟨rfl, fun ys e => ?_⟩
  cases e
  refine ⟨by simp, fun y hy => ?_⟩
  rcases List.mem_cons.mp hy with rfl | hy
  · rfl
  · rw [List.mem_singleton.mp hy]
    rfl⟩
theorem isAims_ok {ps ys : List Str} {as : List (Str × Str)} (hp : ∀ x ∈ ps, isNameS x = true) (ok : AimsOk ps ys as) : isAims ps ys (.tup (as.map aimD)) = true := by
  refine List.all_eq_true.mpr fun d hd => ?_
  obtain ⟨a, ha, rfl⟩ := List.mem_map.mp hd
  obtain ⟨h1, h2⟩ := ok a ha
  show (isPlace (.str a.1) ps && decide (a.2 ∈ deedsA ys)) = true
  rw [decide_eq_true h2, Bool.and_true]
  show (isNameS a.1 && decide (a.1 ∈ ps)) = true
  rw [hp _ h1, decide_eq_true h1]
  rfl
theorem codes_bytes {ps ys : List Str} {as : List (Str × Str)} (ok : AimsOk ps ys as) (hp : ps.length ≤ 10) (hy : ys.length ≤ 6) : codesB (bytesA ps ys as) = codesA ps ys as := by
  have cs := codes_small ok hp hy
  unfold codesB bytesA
  show ((codesA ps ys as).map Nat.toUInt8).map UInt8.toNat = _
  rw [List.map_map]
  refine (List.map_congr_left fun c hc => ?_).trans (List.map_id _)
  have := (cs c hc).2
  show (Nat.toUInt8 c).toNat = c
  exact Nat.mod_eq_of_lt (by omega)
theorem bytes_size (ps ys : List Str) (as : List (Str × Str)) : (bytesA ps ys as).size = 2 * as.length := by
  unfold bytesA
  rw [List.size_toArray, List.length_map, codes_len]
theorem okB_codes {ps ys : List Str} : ∀ {as : List (Str × Str)} {k : Nat}, AimsOk ps ys as → k % 2 = 0 → badB ps ys k (codesA ps ys as) = none
  | [], _, _, _ => rfl
  | a :: as, k, h, hk => by
    obtain ⟨h1, h2⟩ := h a (by simp)
    have x3 := (ixS_ok h1).2.2
    have y3 := (ixS_ok h2).2.2
    have m1 : manyB ps ys k = ps.length := if_neg (by omega)
    have m2 : manyB ps ys (k + 1) = (deedsA ys).length := if_pos (by omega)
    have e1 : okB ps ys k (48 + ixS ps a.1) = true := decide_eq_true (by rw [m1]; omega)
    have e2 : okB ps ys (k + 1) (48 + ixS (deedsA ys) a.2) = true := decide_eq_true (by rw [m2]; omega)
    show (if okB ps ys k (48 + ixS ps a.1) = true then (if okB ps ys (k + 1) (48 + ixS (deedsA ys) a.2) = true then badB ps ys (k + 1 + 1) (codesA ps ys as) else some (k + 1)) else some k) = none
    rw [if_pos e1, if_pos e2]
    exact okB_codes (fun x hx => h x (List.mem_cons_of_mem _ hx)) (by omega)
theorem read_codes {ps ys : List Str} : ∀ {as : List (Str × Str)}, AimsOk ps ys as → readA ps ys (codesA ps ys as) = as
  | [], _ => rfl
  | a :: as, h => by
    obtain ⟨h1, h2⟩ := h a (by simp)
    have x1 := (ixS_ok h1).1
    have y1 := (ixS_ok h2).1
    show (ps.getD (48 + ixS ps a.1 - 48) "", (deedsA ys).getD (48 + ixS (deedsA ys) a.2 - 48) "") :: readA ps ys (codesA ps ys as) = _
    rw [read_codes fun x hx => h x (List.mem_cons_of_mem _ hx), Nat.add_sub_cancel_left, Nat.add_sub_cancel_left, List.getD_eq_getElem?_getD, List.getD_eq_getElem?_getD, x1, y1]
    rfl
theorem aims_lvl (as : List (Str × Str)) : Lvl 2 (.tup (as.map aimD)) ∧ plain (.tup (as.map aimD)) = true := by
  have q : ∀ x ∈ as.map aimD, Lvl 1 x ∧ plain x = true := fun x hx => by
    obtain ⟨a, _, rfl⟩ := List.mem_map.mp hx
    refine ⟨.inr ⟨_, .inl rfl, fun y hy => ?_⟩, rfl⟩
    rcases List.mem_cons.mp hy with rfl | hy
    · rfl
    · rw [List.mem_singleton.mp hy]
      rfl
  exact ⟨.inr ⟨_, .inl rfl, fun x hx => (q x hx).1⟩, plains_of fun x hx => (q x hx).2⟩
theorem lvl_up : ∀ {n : Nat} {d : Dat}, Lvl n d → Lvl (n + 1) d
  | 0, _, h => .inl h
  | n + 1, _, .inl h => .inl h
  | n + 1, _, .inr ⟨xs, e, h⟩ => .inr ⟨xs, e, fun x hx => lvl_up (h x hx)⟩
theorem both_worlds {c : Bool} {ρ : List Sl} {fw fr : GDA Nat} {n : Nat} {Q : Dat → Nat → Prop} {R : RX} (hn : n < 800000) (hA : ∀ Q' : List Dat → Nat → Prop, Q' [.pot] n → fw ρ n Q' R) (hB : ∀ Q' : List Dat → Nat → Prop, Q' [.pot, .tup [.int (4 : Nat), .int (6 : Nat), .int (1 : Nat), .int (0 : Nat), .int (1 : Nat), .int (1 : Nat)]] n → fr ρ n Q' R)
    (h : ∀ ps l rs m, WOk ps l rs → n ≤ m → m ≤ n + 2000 → Q (.tup [namesD ps, partsD l, .tup rs]) m) : if c = true then dCall spWide fw ρ n Q R else dCall spWorld fr ρ n Q R := by
  split
  · exact hA _ ⟨rfl, hn, h⟩
  · exact hB _ ⟨4, 6, 1, 0, 1, 1, rfl, by decide, by decide, by decide, by decide, by decide, by decide, hn, fun ps l rs m W a b _ => h ps l rs m W a b⟩
end
end Aim
namespace Aim
open PySem PySem.Spec PyProof.Rows L2 RZ
open LamX (TabB)
section
variable {P : Program} {w : World} {K : PySem.W.Frag} {mg : Str → Option Value} {base : Heap} {TT : List (Addr × Str)}
variable {C fI AE CA CY : Addr}
def wld (ps : List Str) (l : List (Str × Dat × Str)) (rs : List Dat) : Dat := .tup [namesD ps, partsD l, .tup rs]
theorem depth_strsB : ∀ xs : List Str, PyData.depthAll (pys (xs.map Dat.str)) ≤ 10
  | [] => by simp [pys, PyData.depthAll]
  | x :: r => by
    have ih := depth_strsB r
    simp [pys, py, PyData.depthAll, PyData.depth] at ih ⊢
    omega
theorem cmp_strsB (xs : List Str) : cmpOk (.lst (xs.map Dat.str)) := by
  have h1 : plains (xs.map Dat.str) = true := plains_of fun x hx => by
    obtain ⟨y, _, rfl⟩ := List.mem_map.mp hx
    rfl
  have h2 := depth_strsB xs
  refine ⟨h1, ?_⟩
  show PyData.depthAll (pys (xs.map Dat.str)) + 1 ≤ _
  omega
def spLIsAim : DSp := fun ds n Q _ => ∃ ps l rs ys d, ds = [wld ps l rs, d] ∧ WOk ps l rs ∧ DeedsOf l ys ∧ Kn 1 d ∧ Q (.bl (isAim ps ys d)) n
theorem sc__law_is_aim : FnScope ["_law_world_here", "_law_value"] ["_law_world_here", "_law_value"] (defScope (top 86)) := ⟨rfl, rfl, rfl, by decide +kernel, rfl, by decide +kernel, by decide +kernel⟩
theorem ok_law_is_aim {G : Bool} (F : Has K mg "_law_is_aim" (top 86)) (T : Blt mg) (D__law_deeds : Df P w K mg base false 1 "_law_deeds" (LSp K TT spLDeeds)) : Df P w K mg base G 2 "_law_is_aim" (LSp K TT spLIsAim) := by
  refine dat_ok F (fun f fd F => F.binds (fun _ _ _ _ _ _ us hl => by obtain ⟨x0, x1, rfl⟩ := us2 hl; rfl)) sc__law_is_aim (fun f cdv A outer s H E hr hG => ⟨_, (dss_cons (ds_if (PW.pt (dw_or (dt_not (dt_val (de_cb (cd_isT (T := "tuple") (by simp)) (pe_callB call_isi rfl T.n_isinstance boot_isinstance (da_cons (de_var (pv 1)) (da_cons (de_c (pe_bltn (v := .ty "tuple") rfl T.n_tuple boot_tuple rfl) (fun _ _ => .ty _)) da_nil)))))) (dw_or (dt_cmp (op_neDD hr.units) od_ne (de_cb cd_len (pe_callB call_len rfl T.n_len boot_len (da_cons (de_var (pv 1)) da_nil))) de_int (nomark _)) (dw_or1 (dt_not (dt_val (de_cb (cd_isT (T := "str") (by simp)) (pe_callB call_isi rfl T.n_isinstance boot_isinstance (da_cons (de_ix ix_seq od_ix (de_var (pv 1)) de_int (fun _ _ => rfl)) (da_cons (de_c (pe_bltn (v := .ty "str") rfl T.n_str boot_str rfl) (fun _ _ => .ty _)) da_nil)))))))))) (dss_one (ds_ret de_bl)) dss_nil)
      (dss_one (ds_ret (de_and (de_cb (cd_isT (T := "str") (by simp)) (pe_callB call_isi rfl T.n_isinstance boot_isinstance (da_cons (de_ix ix_seq od_ix (de_var (pv 1)) de_int (fun _ _ => rfl)) (da_cons (de_c (pe_bltn (v := .ty "str") rfl T.n_str boot_str rfl) (fun _ _ => .ty _)) da_nil)))) (de_and (de_cmp (op_inAny (units65 hr)) od_inAny (de_ix ix_seq od_ix (de_var (pv 1)) de_int (fun _ _ => rfl)) (de_ix ix_seq od_ix (de_var (pv 0)) de_int (fun _ _ => rfl)) (by rfl)) (de_one (de_cmp (op_inAny (units65 hr)) od_inAny (de_ix ix_seq od_ix (de_var (pv 1)) de_int (fun _ _ => rfl)) (de_call D__law_deeds hr (by first | decide | omega) (by first | exact hG | (intro z; cases z)) rfl passL (da_cons (de_var (pv 0)) da_nil)) (by rfl)))))))), fun ds n PP R h => ?_⟩) (fun ds n PP R h => ?_)
  · obtain ⟨ps, l, rs, ys, d, rfl, W, D, kd, k⟩ := h
    refine ⟨rfl, rfl, ?_⟩
    have no : (∀ x y, d ≠ .tup [.str x, .str y]) → PP (.bl false) n := fun z => by
      have e : isAim ps ys d = false := by
        cases q : isAim ps ys d with
        | false => rfl
        | true =>
          obtain ⟨a, rfl, _⟩ := isAim_of q
          exact absurd rfl (z a.1 a.2)
      rw [e] at k
      exact k
    rcases tup_orK kd.kd with ⟨xs, rfl⟩ | ⟨t, e, e2⟩
    · obtain ⟨_, kk⟩ := Kn.inn (k := 0) kd
      refine ⟨⟨cmp_fl rfl, cmp_fl rfl⟩, ?_⟩
      show if (!eqD (.int (xs.length : Nat)) (.int ((2 : Nat) : Int))) = true then _ else _
      rw [eqD_nat]
      cases c0 : (xs.length == 2) with
      | false =>
        refine iteT (no fun x y e => ?_)
        cases e
        cases c0
      | true =>
        refine iteF ?_
        obtain ⟨a, b, ex⟩ := pair_of (d := .tup xs) c0
        cases ex
        rcases str_orK (show Kd a from kk a (by simp)) with ⟨x, rfl⟩ | ⟨t, e, e2⟩
        · refine ⟨rfl, iteF (A := True) ?_⟩
          refine ⟨rfl, ?_⟩
          rcases str_orK (show Kd b from kk b (by simp)) with ⟨y, rfl⟩ | ⟨t, e, e2⟩
          · refine .inr (.inl ⟨⟨rfl, flat_names _⟩, ?_⟩)
            rw [in_names]
            have ex : isAim ps ys (.tup [.str x, .str y]) = (decide (x ∈ ps) && decide (y ∈ deedsA ys)) := by
              show ((isNameS x && decide (x ∈ ps)) && decide (y ∈ deedsA ys)) = _
              by_cases hx : x ∈ ps
              · rw [W.pm x hx, Bool.true_and]
              · rw [decide_eq_false hx, Bool.and_false]
            rw [ex] at k
            cases c1 : decide (x ∈ ps) with
            | false =>
              rw [c1, Bool.false_and] at k
              exact k
            | true =>
              rw [c1, Bool.true_and] at k
              refine ⟨ps, l, rs, ys, rfl, W.ll.2, D, ?_⟩
              refine .inl ⟨⟨cmp_fl rfl, cmp_strsB _⟩, ?_⟩
              rw [in_list]
              exact k
          · refine opt_no e ?_
            rw [e2]
            exact no fun x y z => by cases z; cases e; cases e2
        · refine ⟨rfl, opt_no e ?_⟩
          rw [e2]
          exact no fun x y z => by cases z; cases e; cases e2
    · refine opt_no e ?_
      show if (!isT "tuple" t) = true then _ else _
      rw [e2]
      exact iteT (no fun x y z => by cases z; cases e; cases e2)
  · obtain ⟨ps, l, rs, ys, d, rfl, _⟩ := h
    rfl
def badV (ps ys : List Str) (cs : List Nat) : Int := match badB ps ys 0 cs with
  | some i => (i : Nat)
  | none => if cs.length % 2 = 1 then (cs.length : Nat) else -2
def intsD (cs : List Nat) : Dat := .lst (cs.map fun c => .int (c : Nat))
def spBad : DSp := fun ds n Q _ => ∃ ps l rs ys cs, ds = [wld ps l rs, intsD cs] ∧ WOk ps l rs ∧ DeedsOf l ys ∧ cs.length ≤ 2000 ∧ (∀ c ∈ cs, c < 256) ∧ Q (.int (badV ps ys cs)) n
theorem sc__law_bad : FnScope ["_law_world_here", "_law_codes", "_law_many", "_law_at", "_law_code"] ["_law_world_here", "_law_codes"] (defScope (top 88)) := ⟨rfl, rfl, rfl, by decide +kernel, rfl, by decide +kernel, by decide +kernel⟩
theorem ok_bad {G : Bool} (F : Has K mg "_law_bad" (top 88)) (T : Blt mg) (D__law_deeds : Df P w K mg base false 1 "_law_deeds" (LSp K TT spLDeeds)) : Df P w K mg base G 2 "_law_bad" (LSp K TT spBad) := by
  refine dat_ok F (fun f fd F => F.binds (fun _ _ _ _ _ _ us hl => by obtain ⟨x0, x1, rfl⟩ := us2 hl; rfl)) sc__law_bad (fun f cdv A outer s H E hr hG => ⟨_, (dss_cons (ds_set (i := 2) sc__law_bad.nd rfl (Or.inl rfl) (de_lst (da_cons (de_cb cd_len (pe_callB call_len rfl T.n_len boot_len (da_cons (de_ix ix_seq od_ix (de_var (pv 0)) de_int (fun _ _ => rfl)) da_nil))) (da_cons (de_cb cd_len (pe_callB call_len rfl T.n_len boot_len (da_cons (de_call D__law_deeds hr (by first | decide | omega) (by first | exact hG | (intro z; cases z)) rfl passL (da_cons (de_var (pv 0)) da_nil)) da_nil))) da_nil))))
      (dss_cons (ds_forI PassesOwn.never rfl (di_enumK (pi_enumK rfl T.n_enumerate (da_cons (de_var (pv 1)) da_nil))) (dg_tup (n := 2) rfl (dgs_cons (dg_name (pg_name (i := 3) sc__law_bad.nd rfl (Or.inl rfl) (Or.inl rfl))) (dgs_cons (dg_name (pg_name (i := 4) sc__law_bad.nd rfl (Or.inl rfl) (Or.inl rfl))) dgs_nil)) (fun ds ρ P h => dgl_len (l := [3, 4]) h)) (dss_one (ds_if (dt_not (dt_chain op_le op_lt (od_IB _) (od_IB _) de_int (de_var (pv 4)) (de_op op_addAny od_add de_int (de_ix ix_seq od_ix (de_var (pv 2)) (de_op op_mod (od_IC _) (de_cb cd_int (pe_callTy call_intA rfl T.n_int boot_int (da_cons (de_var (pv 3)) da_nil))) de_int) (fun _ _ => rfl))))) (dss_one (ds_ret (de_var (pv 3)))) dss_nil)))
      (dss_one (ds_ret (de_if (dt_cmp (op_eqDD hr.units) od_eq (de_op op_mod (od_IC _) (de_cb cd_int (pe_callTy call_intA rfl T.n_int boot_int (da_cons (de_cb cd_len (pe_callB call_len rfl T.n_len boot_len (da_cons (de_var (pv 1)) da_nil))) da_nil))) de_int) de_int (nomark _)) (de_cb cd_len (pe_callB call_len rfl T.n_len boot_len (da_cons (de_var (pv 1)) da_nil))) (de_neg de_int)))))), fun ds n PP R h => ?_⟩) (fun ds n PP R h => ?_)
  · obtain ⟨ps, l, rs, ys, cs, rfl, W, D, hl, hc, k⟩ := h
    refine ⟨rfl, ?_⟩
    refine ⟨ps, l, rs, ys, rfl, W.ll.2, D, ?_⟩
    refine ⟨by show 2 ≤ sizeLine; decide, ?_⟩
    have plen : (pairs (numL 0 (cs.map fun c => Dat.int (c : Nat)).length) (cs.map fun c => Dat.int (c : Nat))).length = cs.length := by rw [pairs_len, numL_len, List.length_map]; omega
    let MANY : Dat := .lst [.int ((ps.map Dat.str).length : Nat), .int (((deedsA ys).map Dat.str).length : Nat)]
    refine ⟨fun i ρ' m' => ∃ s3 s4 : Sl, ρ' = [.val (wld ps l rs), .val (intsD cs), .val MANY, s3, s4] ∧ m' = n ∧ ∀ j e, j < i → cs[j]? = some e → okB ps ys j e = true, ⟨_, _, rfl, rfl, fun j e hj => absurd hj (by omega)⟩, ?_, ?_⟩
    · rintro i p ρ' m' hp ⟨s3, s4, rfl, rfl, hs⟩
      obtain ⟨a, y, h1, h2, rfl⟩ := pairs_get hp
      rw [List.getElem?_map] at h2
      obtain ⟨c, hc1, rfl⟩ := Option.map_eq_some_iff.mp h2
      have hi : i < cs.length := (List.getElem?_eq_some_iff.mp hc1).1
      rw [numL_get _ _ _ (by rw [List.length_map]; exact hi), Int.zero_add] at h1
      cases h1
      have good : okB ps ys i c = true → ∀ j e, j < i + 1 → cs[j]? = some e → okB ps ys j e = true := fun q j e hj he => by
        rcases Nat.lt_succ_iff_lt_or_eq.mp hj with hj | rfl
        · exact hs j e hj he
        · rw [hc1] at he
          cases he
          exact q
      have bad : okB ps ys i c = false → PP (.int (i : Nat)) m' := fun q => by
        have z := badB_first (k := 0) hc1 (by rw [Nat.zero_add]; exact q) fun j e hj he => by rw [Nat.zero_add]; exact hs j e hj he
        rw [Nat.zero_add] at z
        have e : badV ps ys cs = (i : Nat) := by unfold badV; rw [z]
        rw [e] at k
        exact k
      have many : ∃ v : Nat, v = manyB ps ys i ∧ atI [Dat.int ((ps.map Dat.str).length : Nat), .int (((deedsA ys).map Dat.str).length : Nat)] ((i : Nat) % 2 : Int) = some (.int (v : Nat)) := by
        refine ⟨_, rfl, ?_⟩
        unfold manyB
        rcases Nat.mod_two_eq_zero_or_one i with h | h
        · rw [show ((i : Nat) : Int) % 2 = 0 by omega, if_neg (by omega), ← List.length_map (f := Dat.str) (as := ps)]
          rfl
        · rw [show ((i : Nat) : Int) % 2 = 1 by omega, if_pos h, ← List.length_map (f := Dat.str) (as := deedsA ys)]
          rfl
      obtain ⟨v, ev, hv⟩ := many
      have hv : optD (atI [Dat.int ((ps.map Dat.str).length : Nat), .int (((deedsA ys).map Dat.str).length : Nat)] ((i : Nat) % 2 : Int)) = fun Q => Q (.int (v : Nat)) := by rw [hv]; rfl
      refine ite2 (fun h1 => ?_) (fun h1 => ?_)
      · have h1 : (48 : Int) ≤ (c : Nat) := by simpa using h1
        refine ⟨by show (0 : Int) < 2; decide, ?_⟩
        show optD (atI [Dat.int ((ps.map Dat.str).length : Nat), .int (((deedsA ys).map Dat.str).length : Nat)] ((i : Nat) % 2 : Int)) _
        rw [hv]
        refine ite2 (fun h2 => ?_) (fun h2 => ?_)
        · refine bad (decide_eq_false fun z => ?_)
          have h2 : ¬ (((c : Nat) : Int) < 48 + ((v : Nat) : Int)) := by simpa using h2
          omega
        · have h2 : ((c : Nat) : Int) < 48 + ((v : Nat) : Int) := by simpa using h2
          exact ⟨_, _, rfl, rfl, good (decide_eq_true (by omega))⟩
      · have h1 : ¬ (48 : Int) ≤ (c : Nat) := by simpa using h1
        exact bad (decide_eq_false fun z => h1 (by omega))
    · rintro ρ' m' ⟨s3, s4, rfl, rfl, hs⟩
      rw [plen] at hs
      have all : badB ps ys 0 cs = none := badB_none fun j e he => by
        rw [Nat.zero_add]
        exact hs j e (List.getElem?_eq_some_iff.mp he).1 he
      have e : badV ps ys cs = if cs.length % 2 = 1 then ((cs.length : Nat) : Int) else -2 := by unfold badV; rw [all]
      rw [e] at k
      refine ⟨by show (0 : Int) < 2; decide, ?_⟩
      refine ⟨⟨cmp_fl rfl, cmp_fl rfl⟩, ?_⟩
      have el : (cs.map fun c => Dat.int (c : Nat)).length = cs.length := List.length_map ..
      show if eqD (.int (((cs.map fun c => Dat.int (c : Nat)).length : Nat) % 2)) (.int 1) = true then _ else _
      rw [el]
      rw [show (((cs.length : Nat) : Int) % 2) = ((cs.length % 2 : Nat) : Int) by omega, show (1 : Int) = ((1 : Nat) : Int) from rfl, eqD_nat]
      by_cases c : cs.length % 2 = 1
      · rw [if_pos c] at k
        rw [c]
        refine iteT ?_
        show PP (.int ((cs.map fun c => Dat.int (c : Nat)).length : Nat)) _
        rw [el]
        exact k
      · rw [if_neg c] at k
        rw [beq_eq_false_iff_ne.mpr c]
        exact iteF k
  · obtain ⟨ps, l, rs, ys, cs, rfl, _⟩ := h
    rfl
theorem okB_of {ps ys : List Str} : ∀ {cs : List Nat} {k : Nat}, badB ps ys k cs = none → ∀ j e, cs[j]? = some e → okB ps ys (k + j) e = true
  | [], _, _, _, _, h => by cases h
  | a :: r, k, h, j, e, he => by
    have h : (if okB ps ys k a = true then badB ps ys (k + 1) r else some k) = none := h
    by_cases c : okB ps ys k a = true
    · rw [if_pos c] at h
      cases j with
      | zero =>
        cases he
        exact c
      | succ j =>
        have := okB_of h j e he
        rwa [show k + 1 + j = k + (j + 1) by omega] at this
    · rw [if_neg c] at h
      cases h
theorem atI_intN {cs : List Nat} {k : Nat} (h : k < cs.length) : atI (cs.map fun c => Dat.int (c : Nat)) (k : Int) = some (.int ((cs.getD k 0 : Nat) : Int)) := by
  have hl : (cs.map fun c => Dat.int (c : Nat)).length = cs.length := List.length_map ..
  unfold atI ixN
  rw [if_pos (Int.natCast_nonneg k), if_pos (by rw [hl]; exact Int.ofNat_lt.mpr h)]
  show (cs.map fun c => Dat.int (c : Nat))[((k : Nat) : Int).toNat]? = _
  rw [Int.toNat_natCast, List.getElem?_map, List.getD_eq_getElem?_getD, List.getElem?_eq_getElem h]
  rfl
def spTold : DSp := fun ds n Q _ => ∃ ps l rs ys cs, ds = [wld ps l rs, intsD cs] ∧ WOk ps l rs ∧ DeedsOf l ys ∧ cs.length ≤ 2000 ∧ badB ps ys 0 cs = none ∧ cs.length % 2 = 0 ∧ Q (.tup ((readA ps ys cs).map aimD)) n
theorem sc__law_told : FnScope ["_law_world_here", "_law_codes", "_law_at", "_law_deeds_here", "_law_found"] ["_law_world_here", "_law_codes"] (defScope (top 89)) := ⟨rfl, rfl, rfl, by decide +kernel, rfl, by decide +kernel, by decide +kernel⟩
theorem ok_told {G : Bool} (F : Has K mg "_law_told" (top 89)) (T : Blt mg) (D__law_deeds : Df P w K mg base false 1 "_law_deeds" (LSp K TT spLDeeds)) : Df P w K mg base G 2 "_law_told" (LSp K TT spTold) := by
  refine dat_ok F (fun f fd F => F.binds (fun _ _ _ _ _ _ us hl => by obtain ⟨x0, x1, rfl⟩ := us2 hl; rfl)) sc__law_told (fun f cdv A outer s H E hr hG => ⟨_, (dss_cons (ds_names2 (ps_par (i := 3) (j := 4) rfl sc__law_told.nd rfl rfl (by decide) rfl rfl (das_val (de_call D__law_deeds hr (by first | decide | omega) (by first | exact hG | (intro z; cases z)) rfl passL (da_cons (de_var (pv 0)) da_nil)) (das_own (L2.PE.imp (pe_lst da_nil) fun _ _ _ h => lf_disp h) das_nil)) (by rfl)))
      (dss_cons (ds_forI PassesOwn.never rfl (di_rng3 (pi_range3 rfl T.n_range (da_cons de_int (da_cons (de_cb cd_len (pe_callB call_len rfl T.n_len boot_len (da_cons (de_var (pv 1)) da_nil))) (da_cons de_int da_nil))))) (dg_name (pg_name (i := 2) sc__law_told.nd rfl (Or.inl rfl) (Or.inl rfl))) (dss_one (ds_om od_append (ps_om (i := 4) PySem.F.slot_list_append PySem.F.type_list_append mt_append rfl (by first | exact Or.inl rfl | exact Or.inr (Or.inl rfl)) (da_cons (de_tup (da_cons (de_ix ix_seq od_ix (de_ix ix_seq od_ix (de_var (pv 0)) de_int (fun _ _ => rfl)) (de_op op_sub (od_II _) (de_ix ix_seq od_ix (de_var (pv 1)) (de_var (pv 2)) (fun _ _ => rfl)) de_int) (fun _ _ => rfl)) (da_cons (de_ix ix_seq od_ix (de_var (pv 3)) (de_op op_sub (od_II _) (de_ix ix_seq od_ix (de_var (pv 1)) (de_op op_addAny od_add (de_var (pv 2)) de_int) (fun _ _ => rfl)) de_int) (fun _ _ => rfl)) da_nil))) da_nil)))))
      (dss_one (ds_melt (i := 4) (ds_ret (de_cb cd_tup (pe_callTy call_tupleN rfl T.n_tuple boot_tuple (da_cons (de_var (pv 4)) da_nil)))))))), fun ds n PP R h => ?_⟩) (fun ds n PP R h => ?_)
  · obtain ⟨ps, l, rs, ys, cs, rfl, W, D, hl, hb, he, k⟩ := h
    refine ⟨rfl, ?_⟩
    refine ⟨ps, l, rs, ys, rfl, W.ll.2, D, ?_⟩
    refine ⟨Nat.zero_le _, rfl, by decide, ?_⟩
    have ok : ∀ j e, cs[j]? = some e → okB ps ys j e = true := fun j e he => by
      have := okB_of hb j e he
      rwa [Nat.zero_add] at this
    have at1 : ∀ k, k < cs.length → ∃ c, cs.getD k 0 = c ∧ 48 ≤ c ∧ c < 48 + manyB ps ys k := fun k hk => by
      have := of_decide_eq_true (ok k _ (List.getElem?_eq_getElem hk))
      refine ⟨_, rfl, ?_⟩
      rw [List.getD_eq_getElem?_getD, List.getElem?_eq_getElem hk]
      exact this
    have sz : sizeLine = 16777216 := by decide +kernel
    have el : (cs.map fun c => Dat.int (c : Nat)).length = cs.length := List.length_map ..
    have rg : RgC 0 (((cs.map fun c => Dat.int (c : Nat)).length : Nat) : Int) 2 (cs.length / 2) := by
      rw [el]
      have z := rgc_two (n := cs.length / 2) (by omega)
      rw [show 2 * (cs.length / 2) = cs.length by omega] at z
      exact z
    refine ⟨cs.length / 2, rg, by omega, ?_⟩
    have dl : (deedsA ys).length = ys.length + 1 := rfl
    refine ⟨fun i ρ' m' => ∃ s2 : Sl, ρ' = [.val (wld ps l rs), .val (intsD cs), s2, .val (.lst ((deedsA ys).map .str)), .own ((List.range i).map fun j => aimD (pieceB ps ys cs (2 * j)))] ∧ m' = n, ⟨_, rfl, rfl⟩, ?_, ?_⟩
    · rintro i d ρ' m' hd ⟨s2, rfl, rfl⟩
      unfold stepL at hd
      rw [List.getElem?_map] at hd
      obtain ⟨i', hi', rfl⟩ := Option.map_eq_some_iff.mp hd
      have hi : i < cs.length / 2 := by
        have := (List.getElem?_eq_some_iff.mp hi').1
        rwa [List.length_range] at this
      rw [List.getElem?_range hi] at hi'
      cases hi'
      obtain ⟨c, hc, c1, c2⟩ := at1 (2 * i) (by omega)
      obtain ⟨e, he, e1, e2⟩ := at1 (2 * i + 1) (by omega)
      have m1 : manyB ps ys (2 * i) = ps.length := if_neg (by omega)
      have m2 : manyB ps ys (2 * i + 1) = ys.length + 1 := if_pos (by omega)
      rw [m1] at c2
      rw [m2] at e2
      have g1 : atI (cs.map fun c => Dat.int (c : Nat)) (0 + ((i : Nat) : Int) * 2) = some (.int (c : Nat)) := by
        rw [show (0 + ((i : Nat) : Int) * 2) = ((2 * i : Nat) : Int) by omega, atI_intN (by omega), hc]
      have g2 : atI (cs.map fun c => Dat.int (c : Nat)) (0 + ((i : Nat) : Int) * 2 + 1) = some (.int (e : Nat)) := by
        rw [show (0 + ((i : Nat) : Int) * 2 + 1) = ((2 * i + 1 : Nat) : Int) by omega, atI_intN (by omega), he]
      show optD (atI (cs.map fun c => Dat.int (c : Nat)) (0 + ((i : Nat) : Int) * 2)) _
      rw [g1]
      show optD (atI (ps.map Dat.str) (((c : Nat) : Int) - 48)) _
      rw [show ((c : Nat) : Int) - 48 = ((c - 48 : Nat) : Int) by omega, atI_strN (by omega)]
      show optD (atI (cs.map fun c => Dat.int (c : Nat)) (0 + ((i : Nat) : Int) * 2 + 1)) _
      rw [g2]
      show optD (atI ((deedsA ys).map Dat.str) (((e : Nat) : Int) - 48)) _
      rw [show ((e : Nat) : Int) - 48 = ((e - 48 : Nat) : Int) by omega, atI_strN (by rw [dl]; omega)]
      refine ⟨by show 2 ≤ sizeLine; decide, ?_⟩
      refine ⟨by rw [List.length_map, List.length_range]; omega, .val (.int (0 + ((i : Nat) : Int) * 2)), ?_, rfl⟩
      have e3 : (List.range (i + 1)).map (fun j => aimD (pieceB ps ys cs (2 * j))) = (List.range i).map (fun j => aimD (pieceB ps ys cs (2 * j))) ++ [.tup [.str (ps.getD (c - 48) ""), .str ((deedsA ys).getD (e - 48) "")]] := by
        rw [List.range_succ, List.map_append]
        show _ ++ [aimD (ps.getD (cs.getD (2 * i) 0 - 48) "", (deedsA ys).getD (cs.getD (2 * i + 1) 0 - 48) "")] = _
        rw [hc, he]
        rfl
      rw [e3]
      rfl
    · rintro ρ' m' ⟨s2, rfl, rfl⟩
      have sl : (stepL 0 2 (cs.length / 2)).length = cs.length / 2 := stepL_len ..
      have e4 : (List.range (stepL 0 2 (cs.length / 2)).length).map (fun j => aimD (pieceB ps ys cs (2 * j))) = (readA ps ys cs).map aimD := by
        rw [sl, ← read_pieces ps ys (cs.length / 2) cs (by omega), List.map_map]
        rfl
      rw [e4]
      exact k
  · obtain ⟨ps, l, rs, ys, cs, rfl, _⟩ := h
    rfl
end
end Aim
namespace Aim
open PySem PySem.Spec PyProof.Rows L2 RZ
open LamX (TabB)
section
variable {P : Program} {w : World} {K : PySem.W.Frag} {mg : Str → Option Value} {base : Heap} {TT : List (Addr × Str)}
def spRowB : DSp := fun ds n Q _ => ∃ xs : List Dat, ds = [.pot, .tup xs] ∧ n < 900000 ∧ 0 < xs.length ∧ xs.length ≤ 1000 ∧ ∀ ys m, n ≤ m → m ≤ n + 3 → (∀ y ∈ ys, y ∈ xs ∨ y ∈ oddL) → ys.length ≤ 2 * xs.length + 1 → wts ys ≤ 2 * wts xs + 100 → Q (.tup ys) m ∧ Q (.lst ys) m
theorem ok_bent_rowB {G : Bool} (F : Has K mg "_law_bent_row" (top 81)) (T : Blt mg) (D__law_take : Df P w K mg base false 1 "_law_take" (LSp K TT spTake)) (D__law_odd : Df P w K mg base false 3 "_law_odd" (LSp K TT spOdd)) : Df P w K mg base G 4 "_law_bent_row" (LSp K TT spRowB) := by
  refine dat_ok F (fun f fd F => F.binds (fun _ _ _ _ _ _ us hl => by obtain ⟨x0, x1, rfl⟩ := us2 hl; rfl)) sc__law_bent_row (fun f cdv A outer s H E hr hG => ⟨_, (dss_cons (ds_par (ps_par (i := 2) (j := 3) rfl sc__law_bent_row.nd rfl rfl (by decide) rfl rfl (da_cons (de_call D__law_take hr (by first | decide | omega) (by first | exact hG | (intro z; cases z)) rfl passL (da_cons (de_var (pv 0)) (da_cons (de_cb cd_len (pe_callB call_len rfl T.n_len boot_len (da_cons (de_var (pv 1)) da_nil))) da_nil))) (da_cons (de_call D__law_take hr (by first | decide | omega) (by first | exact hG | (intro z; cases z)) rfl passL (da_cons (de_var (pv 0)) (da_cons de_int da_nil))) da_nil)) (by rfl)))
      (dss_cons (ds_if (dt_cmp (op_eqDD hr.units) od_eq (de_var (pv 3)) de_int (nomark _)) (dss_one (ds_ret (de_op op_addAny od_add (de_sl (de_var (pv 1)) do_none (do_some (de_var (pv 2)))) (de_sl (de_var (pv 1)) (do_some (de_op op_addAny od_add (de_var (pv 2)) de_int)) do_none)))) dss_nil)
      (dss_cons (ds_if (dt_cmp (op_eqDD hr.units) od_eq (de_var (pv 3)) de_int (nomark _)) (dss_one (ds_ret (de_op op_addAny od_add (de_var (pv 1)) (de_sl (de_var (pv 1)) (do_some (de_var (pv 2))) (do_some (de_op op_addAny od_add (de_var (pv 2)) de_int)))))) dss_nil)
      (dss_cons (ds_if (dt_cmp (op_eqDD hr.units) od_eq (de_var (pv 3)) de_int (nomark _)) (dss_one (ds_ret (de_op op_addAny od_add (de_op op_addAny od_add (de_sl (de_var (pv 1)) do_none (do_some (de_var (pv 2)))) (de_tup (da_cons (de_call D__law_odd hr (by first | decide | omega) (by first | exact hG | (intro z; cases z)) rfl passL (da_cons (de_var (pv 0)) da_nil)) da_nil))) (de_sl (de_var (pv 1)) (do_some (de_op op_addAny od_add (de_var (pv 2)) de_int)) do_none)))) dss_nil)
      (dss_one (ds_ret (de_if (dt_cmp (op_eqDD hr.units) od_eq (de_var (pv 3)) de_int (nomark _)) (de_rev (de_var (pv 1))) (de_fr (L2.PE.imp (pe_callTy call_list_of rfl T.n_list boot_list (pa_cons (de_var (pv 1)) pa_nil)) fun _ _ _ h => lf_list h))))))))), fun ds n PP R h => ?_⟩) (fun ds n PP R h => ?_)
  · obtain ⟨xs, rfl, hn, h0, h1, k⟩ := h
    refine ⟨rfl, ?_⟩
    refine ⟨(xs.length : Nat), rfl, by omega, by omega, by omega, fun a a0 a1 => ?_⟩
    refine ⟨5, rfl, by omega, by decide, by decide, fun b b0 b1 => ?_⟩
    have sz : sizeLine = 16777216 := by decide +kernel
    have l1 := cutD_len xs none (some a)
    have l2 := cutD_len xs (some (a + 1)) none
    have l3 := cutD_len xs (some a) (some (a + 1))
    have w1 := wts_cut xs none (some a)
    have w2 := wts_cut xs (some (a + 1)) none
    have w3 := wts_cut xs (some a) (some (a + 1))
    refine ⟨⟨cmp_flat rfl, cmp_flat rfl⟩, ?_⟩
    refine ite2 (fun c => ?_) (fun c => ?_)
    · exact ⟨by omega, (k _ _ (by omega) (by omega) (fun y hy => .inl (by rcases List.mem_append.mp hy with z | z <;> exact cutD_mem z)) (by rw [List.length_append]; omega) (by rw [wts_append]; omega)).1⟩
    refine ⟨⟨cmp_flat rfl, cmp_flat rfl⟩, ?_⟩
    refine ite2 (fun c => ?_) (fun c => ?_)
    · exact ⟨by omega, (k _ _ (by omega) (by omega) (fun y hy => .inl (by rcases List.mem_append.mp hy with z | z <;> first | exact z | exact cutD_mem z)) (by rw [List.length_append]; omega) (by rw [wts_append]; omega)).1⟩
    refine ⟨⟨cmp_flat rfl, cmp_flat rfl⟩, ?_⟩
    refine ite2 (fun c => ?_) (fun c => ?_)
    · refine ⟨rfl, by omega, fun v hv => ?_⟩
      have wv := odd_wt v hv
      refine ⟨by show 1 ≤ sizeLine; decide, ⟨by show _ + 1 ≤ sizeLine; omega, ?_⟩⟩
      refine ⟨by rw [List.length_append, List.length_singleton]; omega, (k _ _ (by omega) (by omega) (fun y hy => ?_) (by rw [List.length_append, List.length_append, List.length_singleton]; omega) (by rw [wts_append, wts_append]; simp only [wts]; omega)).1⟩
      rcases List.mem_append.mp hy with z | z
      · rcases List.mem_append.mp z with z | z
        · exact .inl (cutD_mem z)
        · exact .inr (List.mem_singleton.mp z ▸ hv)
      · exact .inl (cutD_mem z)
    refine ⟨⟨cmp_flat rfl, cmp_flat rfl⟩, ?_⟩
    refine ite2 (fun c => ?_) (fun c => ?_)
    · exact (k _ _ (by omega) (by omega) (fun y hy => .inl (List.mem_reverse.mp hy)) (by rw [List.length_reverse]; omega) (by rw [wts_rev]; omega)).1
    · exact (k _ _ (by omega) (by omega) (fun y hy => .inl hy) (by omega) (by omega)).2
  · obtain ⟨xs, rfl, _⟩ := h
    rfl
end
end Aim
namespace Aim
open PySem PySem.Spec PyProof.Rows L2 RZ
open LamX (TabB)
section
variable {P : Program} {w : World} {K : PySem.W.Frag} {mg : Str → Option Value} {base : Heap} {TT : List (Addr × Str)}
structure BendI (I J : Int → Prop) : Prop where
  odd : OddI J
  sub : ∀ i, I i → J i
  one : ∀ i, I i → J (i + 1) ∧ J (i - 1) ∧ J (-i - 1)
  lim : ∀ i, I i → i.natAbs < 10 ^ 50
theorem BV.or {I : Int → Prop} {s j : Nat} {d : Dat} (h : BV I s j d) : (bVal I d) ∨ ∃ i xs, j = i + 1 ∧ (d = .tup xs ∨ d = .lst xs) ∧ xs.length ≤ s ∧ ∀ x ∈ xs, BV I s i x := by
  cases j with
  | zero => exact .inl h
  | succ i =>
    rcases h with h | ⟨xs, e, l, q⟩
    · exact .inl h
    · exact .inr ⟨i, xs, rfl, e, l, q⟩
def spBentB (I J : Int → Prop) (deep : Nat) : DSp := fun ds n Q _ => ∃ (j s : Nat) (d : Dat), ds = [.pot, d, .int deep] ∧ j ≤ 30 ∧ 1 ≤ s ∧ s ≤ 1000 ∧ BV I s j d ∧ wt d ≤ 1000000 ∧ n + 20 * (deep + 1) < 800000 ∧ ∀ v m, n ≤ m → m ≤ n + 20 * (deep + 1) → BV J (2 * s + 1) (j + 2) v → wt v ≤ 2 * wt d + 600 → Q v m
def spBentX (deep : Nat) : DSp := fun ds n Q R => ∃ I J : Int → Prop, BendI I J ∧ spBentB I J deep ds n Q R
theorem sc__law_bent : FnScope ["_law_pot_here", "_law_value", "_law_deep", "_law_kind", "_law_some", "_law_at", "_law_inner"] ["_law_pot_here", "_law_value", "_law_deep"] (defScope (top 82)) := ⟨rfl, rfl, rfl, by decide +kernel, rfl, by decide +kernel, by decide +kernel⟩
theorem bentB_step {G : Bool} {deep : Nat} {sp0 : DSp} (F : Has K mg "_law_bent" (top 82)) (T : Blt mg) (D__law_take : Df P w K mg base false 1 "_law_take" (LSp K TT spTake)) (D__law_is : Df P w K mg base false 1 "_law_is" (LSp K TT spIs)) (D__law_odd : Df P w K mg base false 3 "_law_odd" (LSp K TT spOdd)) (D__law_name : Df P w K mg base false 4 "_law_name" (LSp K TT spName)) (D__law_bent_row : Df P w K mg base false 4 "_law_bent_row" (LSp K TT spRowB))
    (D__law_bent : Df P w K mg base G (deep + 4) "_law_bent" (LSp K TT sp0)) (hc : ∀ (d' : Nat), deep = d' + 1 → ∀ ds n Q R, spBentX d' ds n Q R → sp0 ds n Q R) : Df P w K mg base G (deep + 5) "_law_bent" (LSp K TT (spBentX deep)) := by
  refine dat_ok F (fun f fd F => F.binds (fun _ _ _ _ _ _ us hl => by obtain ⟨x0, x1, x2, rfl⟩ := us3 hl; rfl)) sc__law_bent (fun f cdv A outer s H E hr hG => ⟨_, (dss_cons (ds_if (PW.pt (dw_and (dt_val (de_cb (cd_isT (T := "tuple") (by simp)) (pe_callB call_isi rfl T.n_isinstance boot_isinstance (da_cons (de_var (pv 1)) (da_cons (de_c (pe_bltn (v := .ty "tuple") rfl T.n_tuple boot_tuple rfl) (fun _ _ => .ty _)) da_nil))))) (dw_and1 (dt_cmp (op_neT0 hr.units) od_neT0 (de_var (pv 1)) (de_tup da_nil) (nomark _))))) (dss_cons (ds_if (PW.pt (dw_and (dt_cmp op_gt (od_IB _) (de_var (pv 2)) de_int (nomark _)) (dw_and1 (dt_cmp op_gt (od_IB _) (de_call D__law_take hr (by first | decide | omega) (by first | exact hG | (intro z; cases z)) rfl passL (da_cons (de_var (pv 0)) (da_cons de_int da_nil))) de_int (nomark _))))) (dss_cons (ds_set (i := 5) sc__law_bent.nd rfl (Or.inl rfl) (de_call D__law_take hr (by first | decide | omega) (by first | exact hG | (intro z; cases z)) rfl passL (da_cons (de_var (pv 0)) (da_cons (de_cb cd_len (pe_callB call_len rfl T.n_len boot_len (da_cons (de_var (pv 1)) da_nil))) da_nil))))
      (dss_cons (ds_set (i := 6) sc__law_bent.nd rfl (Or.inl rfl) (de_call D__law_bent hr (by first | decide | omega) (by first | exact hG | (intro z; cases z)) rfl passL (da_cons (de_var (pv 0)) (da_cons (de_ix ix_seq od_ix (de_var (pv 1)) (de_var (pv 5)) (fun _ _ => rfl)) (da_cons (de_op op_sub (od_II _) (de_var (pv 2)) de_int) da_nil)))))
      (dss_one (ds_ret (de_op op_addAny od_add (de_op op_addAny od_add (de_sl (de_var (pv 1)) do_none (do_some (de_var (pv 5)))) (de_tup (da_cons (de_var (pv 6)) da_nil))) (de_sl (de_var (pv 1)) (do_some (de_op op_addAny od_add (de_var (pv 5)) de_int)) do_none)))))) dss_nil)
      (dss_one (ds_ret (de_call D__law_bent_row hr (by first | decide | omega) (by first | exact hG | (intro z; cases z)) rfl passL (da_cons (de_var (pv 0)) (da_cons (de_var (pv 1)) da_nil)))))) dss_nil)
      (dss_cons (ds_set (i := 3) sc__law_bent.nd rfl (Or.inl rfl) (de_call D__law_take hr (by first | decide | omega) (by first | exact hG | (intro z; cases z)) rfl passL (da_cons (de_var (pv 0)) (da_cons de_int da_nil))))
      (dss_cons (ds_if (dt_val (de_call D__law_is hr (by first | decide | omega) (by first | exact hG | (intro z; cases z)) rfl passL (da_cons de_str (da_cons (de_var (pv 1)) da_nil)))) (dss_cons (ds_set (i := 4) sc__law_bent.nd rfl (Or.inl rfl) (de_lst (da_cons (de_op op_addAny od_add (de_var (pv 1)) de_int) (da_cons (de_op op_sub (od_II _) (de_var (pv 1)) de_int) (da_cons (de_op op_sub (od_II _) (de_neg (de_var (pv 1))) de_int) (da_cons de_non (da_cons (de_cmp (op_eqDD hr.units) od_eq (de_var (pv 1)) de_int (nomark _)) (da_cons (de_cb cd_str (pe_callTy call_str_int rfl T.n_str boot_str (da_cons (de_var (pv 1)) da_nil))) da_nil))))))))
      (dss_one (ds_ret (de_ix ix_seq od_ix (de_var (pv 4)) (de_var (pv 3)) (fun _ _ => rfl))))) dss_nil)
      (dss_cons (ds_if (PW.pt (dw_or (dt_not (dt_val (de_cb (cd_isT (T := "str") (by simp)) (pe_callB call_isi rfl T.n_isinstance boot_isinstance (da_cons (de_var (pv 1)) (da_cons (de_c (pe_bltn (v := .ty "str") rfl T.n_str boot_str rfl) (fun _ _ => .ty _)) da_nil)))))) (dw_or1 (dt_cmp (op_eqDD hr.units) od_eq (de_var (pv 3)) de_int (nomark _))))) (dss_one (ds_ret (de_call D__law_odd hr (by first | decide | omega) (by first | exact hG | (intro z; cases z)) rfl passL (da_cons (de_var (pv 0)) da_nil)))) dss_nil)
      (dss_cons (ds_set (i := 4) sc__law_bent.nd rfl (Or.inl rfl) (de_lst (da_cons (de_op op_addAny od_add (de_var (pv 1)) de_str) (da_cons (de_sl (de_var (pv 1)) (do_some de_int) do_none) (da_cons (de_op op_addAny od_add (de_var (pv 1)) de_str) (da_cons (de_tup (da_cons (de_var (pv 1)) da_nil)) da_nil))))))
      (dss_one (ds_ret (de_if (dt_cmp (op_eqDD hr.units) od_eq (de_var (pv 3)) de_int (nomark _)) (de_call D__law_name hr (by first | decide | omega) (by first | exact hG | (intro z; cases z)) rfl passL (da_cons (de_var (pv 0)) da_nil)) (de_ix ix_seq od_ix (de_var (pv 4)) (de_op op_sub (od_II _) (de_var (pv 3)) de_int) (fun _ _ => rfl)))))))))), fun ds n PP R h => ?_⟩) (fun ds n PP R h => ?_)
  · obtain ⟨I, J, B, j, s, d, rfl, hj, hs1, hs, hd, hw, hn, k⟩ := h
    refine ⟨rfl, rfl, ?_⟩
    have odd : ∀ m, m ≤ n + 5 → n ≤ m → spOdd [.pot] m PP R0 := fun m hm h0 => ⟨rfl, by omega, fun v hv => by
      have z := odd_bv (J := J) (s := 2 * s + 1) (k := j) B.odd (by omega) v hv
      exact k v _ (by omega) (by omega) z.1 (by omega)⟩
    have sz : sizeLine = 16777216 := by decide +kernel
    rcases hd.or with hf | ⟨j, xs, rfl, rfl | rfl, hl, hxs⟩
    · match d, hf with
      | .non, _ =>
        refine ⟨6, rfl, by omega, by decide, by decide, fun r r0 r1 => ⟨"int", .non, rfl, rfl, ?_⟩⟩
        exact ⟨rfl, odd _ (by omega) (by omega)⟩
      | .bl b, _ =>
        refine ⟨6, rfl, by omega, by decide, by decide, fun r r0 r1 => ⟨"int", .bl b, rfl, rfl, ?_⟩⟩
        exact ⟨rfl, odd _ (by omega) (by omega)⟩
      | .dct ks xs, _ =>
        refine ⟨6, rfl, by omega, by decide, by decide, fun r r0 r1 => ⟨"int", .dct ks xs, rfl, rfl, ?_⟩⟩
        exact ⟨rfl, odd _ (by omega) (by omega)⟩
      | .int i, hi =>
        refine ⟨6, rfl, by omega, by decide, by decide, fun r r0 r1 => ⟨"int", .int i, rfl, rfl, ?_⟩⟩
        have hst := strI (B.lim i hi)
        refine ⟨⟨cmp_flat rfl, cmp_flat rfl⟩, ⟨hst.2.2, hst.1, by show 6 ≤ sizeLine; decide, ?_⟩⟩
        obtain ⟨v, hv, e⟩ := atI_of (xs := [.int (i + 1), .int (i - 1), .int (-i - 1), .non, .bl (eqD (.int i) (.int 1)), .str (toString i)]) r0 r1
        show optD (atI ([.int (i + 1), .int (i - 1), .int (-i - 1), .non, .bl (eqD (.int i) (.int 1)), .str (toString i)] : List Dat) r) _
        rw [e]
        have o := B.one i hi
        simp only [List.mem_cons, List.not_mem_nil, or_false] at hv
        have z : bVal J v ∧ wt v ≤ 600 := by
          rcases hv with rfl | rfl | rfl | rfl | rfl | rfl
          · exact ⟨o.1, by simp [wt]⟩
          · exact ⟨o.2.1, by simp [wt]⟩
          · exact ⟨o.2.2, by simp [wt]⟩
          · exact ⟨trivial, by decide⟩
          · exact ⟨trivial, by simp [wt]⟩
          · exact ⟨hst.1, by have := hst.2.1; simp only [wt]; omega⟩
        exact k v _ (by omega) (by omega) (.val z.1 _) (by omega)
      | .str x, hx =>
        refine ⟨6, rfl, by omega, by decide, by decide, fun r r0 r1 => ⟨"int", .str x, rfl, rfl, ?_⟩⟩
        have hx : StrB x := hx
        have hxl : x.length = x.cps.size := rfl
        have hw2 : 10 * x.cps.size + 4 ≤ 1000000 := hw
        refine ⟨rfl, ⟨cmp_flat rfl, cmp_flat rfl⟩, ?_⟩
        refine ite2 (fun c => odd _ (by omega) (by omega)) (fun c => ?_)
        have c : r ≠ 0 := by simpa [eqD, py, PyData.eqv] using c
        have one : ∀ c : Nat, (x ++ (⟨#[c]⟩ : Str)).cps.size = x.cps.size + 1 := fun c => by
          show (x.cps ++ #[c]).size = _
          rw [Array.size_append]
          rfl
        refine ⟨by show x.cps.size + 1 ≤ sizeLine; omega, by show x.cps.size + 1 ≤ sizeLine; omega, by show 1 ≤ sizeLine; decide, by show 4 ≤ sizeLine; decide, ?_⟩
        refine ⟨⟨cmp_flat rfl, cmp_flat rfl⟩, ?_⟩
        refine ite2 (fun c2 => ?_) (fun c2 => ?_)
        · refine ⟨rfl, by omega, fun z m hz h1 h2 => k _ _ (by omega) (by omega) (.val (d := .str z) (show StrB z from isNm_B hz) _) (by have := hz.2.1; simp only [wt]; omega)⟩
        · have c2 : r ≠ 1 := by simpa [eqD, py, PyData.eqv] using c2
          obtain ⟨v, hv, e⟩ := atI_of (xs := [.str (x ++ "a"), .str (cutS x (some 1) none), .str (x ++ "A"), .tup [.str x]]) (r := r - 2) (by omega) (by show r - 2 < 4; omega)
          show optD (atI ([.str (x ++ "a"), .str (cutS x (some 1) none), .str (x ++ "A"), .tup [.str x]] : List Dat) (r - 2)) _
          rw [e]
          have z : BV J (2 * s + 1) (j + 2) v ∧ wt v ≤ 10 * x.cps.size + 20 := by
            simp only [List.mem_cons, List.not_mem_nil, or_false] at hv
            rcases hv with rfl | rfl | rfl | rfl
            · exact ⟨.val (d := .str (x ++ "a")) (strB_append hx (strB_dec (by decide +kernel)) (by show x.length + 1 ≤ sizeLine; omega)) _, by have := one 97; simp only [wt]; show 10 * (x ++ (⟨#[97]⟩ : Str)).cps.size + 4 ≤ _; omega⟩
            · exact ⟨.val (d := .str (cutS x (some 1) none)) (strB_cut hx _ _) _, by have := cutS_lenB x (some 1) none; simp only [wt]; omega⟩
            · exact ⟨.val (d := .str (x ++ "A")) (strB_append hx (strB_dec (by decide +kernel)) (by show x.length + 1 ≤ sizeLine; omega)) _, by have := one 65; simp only [wt]; show 10 * (x ++ (⟨#[65]⟩ : Str)).cps.size + 4 ≤ _; omega⟩
            · exact ⟨.inr ⟨_, .inl rfl, by show 1 ≤ _; omega, fun y hy => by rw [List.mem_singleton.mp hy]; exact .val (d := .str x) hx _⟩, by simp only [wt, wts]; omega⟩
          exact k v _ (by omega) (by omega) z.1 (by have := z.2; simp only [wt]; omega)
    · refine ⟨by show 0 ≤ sizeLine; decide, ?_⟩
      show if (!xs.isEmpty) = true then _ else _
      have hw2 : wts xs + 5 ≤ 1000000 := hw
      have hwt : wt (.tup xs) = wts xs + 5 := rfl
      match xs, hl, hxs, hw2, hwt, k with
      | [], _, _, _, _, _ =>
        refine ⟨6, rfl, by omega, by decide, by decide, fun r r0 r1 => ⟨"int", .tup [], rfl, rfl, ?_⟩⟩
        exact ⟨rfl, odd _ (by omega) (by omega)⟩
      | x :: xs, hl, hxs, hw2, hwt, k =>
        have hn0 : 0 < (x :: xs).length := Nat.succ_pos _
        have mem : ∀ y ∈ x :: xs, BV J (2 * s + 1) (j + 2) y := fun y hy => (hxs y hy).imp B.sub (by omega)
        refine iteT ?_
        generalize x :: xs = zs at *
        have row : ∀ m, n ≤ m → m ≤ n + 10 → spRowB [.pot, .tup zs] m PP R0 := fun m h0 h1 => ⟨zs, rfl, by omega, hn0, by omega, fun ys m' h2 h3 hy hlen hwy => by
          have hm : ∀ y ∈ ys, BV J (2 * s + 1) (j + 2) y := fun y hy' => by
            rcases hy y hy' with z | z
            · exact mem y z
            · exact (odd_bv B.odd (by omega) y z).1
          have w1 : wt (.tup ys) = wts ys + 5 := rfl
          have w2 : wt (.lst ys) = wts ys + 5 := rfl
          exact ⟨k _ _ (by omega) (by omega) (.inr ⟨ys, .inl rfl, by omega, hm⟩) (by omega), k _ _ (by omega) (by omega) (.inr ⟨ys, .inr rfl, by omega, hm⟩) (by omega)⟩⟩
        refine ite2 (fun c => ?_) (fun c => row _ (by omega) (by omega))
        obtain ⟨d', rfl⟩ : ∃ d', deep = d' + 1 := ⟨deep - 1, by have h0 : (0 : Int) < deep := (by simpa using c); omega⟩
        refine ⟨5, rfl, by omega, by decide, by decide, fun r r0 r1 => ?_⟩
        refine ite2 (fun c2 => ?_) (fun c2 => row _ (by omega) (by omega))
        refine ⟨(zs.length : Nat), rfl, by omega, by omega, by omega, fun a a0 a1 => ?_⟩
        obtain ⟨v, hv, ha⟩ := atI_of a0 a1
        show optD (atI zs a) _
        rw [ha]
        have sp : wts (cutD zs none (some a)) + wt v + wts (cutD zs (some (a + 1)) none) = wts zs := by
          obtain ⟨na, rfl⟩ : ∃ k : Nat, a = (k : Int) := ⟨a.toNat, by omega⟩
          have e1 : cutD zs none (some (na : Int)) = zs.take na := by
            unfold cutD
            rw [HT.sIx_none, HT.sIx_nat, List.drop_zero, Nat.sub_zero, Nat.min_eq_left (by omega)]
          have e2 : cutD zs (some ((na : Int) + 1)) none = zs.drop (na + 1) := by
            unfold cutD
            rw [HT.sIx_none, show ((na : Int) + 1) = ((na + 1 : Nat) : Int) by push_cast; rfl, HT.sIx_nat, Nat.min_eq_left (by omega)]
            exact List.take_of_length_le (by rw [List.length_drop]; omega)
          rw [e1, e2]
          refine wts_split zs na v ?_
          unfold atI ixN at ha
          rw [if_pos (by omega), if_pos (by omega)] at ha
          exact ha
        refine hc d' rfl _ _ _ _ ⟨I, J, B, j, s, v, by simp, by omega, hs1, hs, hxs v hv, by omega, by omega, fun u m h0 h1 hu hwu => ?_⟩
        have l1 := cutD_len zs none (some a)
        have l2 := cutD_len zs (some (a + 1)) none
        refine ⟨by show 1 ≤ sizeLine; decide, by show _ + 1 ≤ sizeLine; omega, ?_⟩
        refine ⟨by rw [List.length_append, List.length_singleton]; omega, k _ _ (by omega) (by omega) (.inr ⟨_, .inl rfl, by rw [List.length_append, List.length_append, List.length_singleton]; omega, fun y hy => ?_⟩) (by simp only [wt, wts_append, wts]; omega)⟩
        rcases List.mem_append.mp hy with z | z
        · rcases List.mem_append.mp z with z | z
          · exact mem y (cutD_mem z)
          · rw [List.mem_singleton.mp z]
            exact hu
        · exact mem y (cutD_mem z)
    · refine ⟨6, rfl, by omega, by decide, by decide, fun r r0 r1 => ⟨"int", .lst xs, rfl, rfl, ?_⟩⟩
      exact ⟨rfl, odd _ (by omega) (by omega)⟩
  · obtain ⟨I, J, B, j, s, d, rfl, _⟩ := h
    rfl
theorem ok_bentB {G : Bool} (F : Has K mg "_law_bent" (top 82)) (T : Blt mg) (D__law_take : Df P w K mg base false 1 "_law_take" (LSp K TT spTake)) (D__law_is : Df P w K mg base false 1 "_law_is" (LSp K TT spIs)) (D__law_odd : Df P w K mg base false 3 "_law_odd" (LSp K TT spOdd)) (D__law_name : Df P w K mg base false 4 "_law_name" (LSp K TT spName)) (D__law_bent_row : Df P w K mg base false 4 "_law_bent_row" (LSp K TT spRowB)) : ∀ deep, Df P w K mg base G (deep + 5) "_law_bent" (LSp K TT (spBentX deep))
  | 0 => bentB_step (sp0 := fun _ _ _ _ => False) F T D__law_take D__law_is D__law_odd D__law_name D__law_bent_row (.none (ps := ["_law_pot_here", "_law_value", "_law_deep"]) F fun f fd F => F.binds (fun _ _ _ _ _ _ us hl => by obtain ⟨x0, x1, x2, rfl⟩ := us3 hl; rfl)) fun d' e => by cases e
  | deep + 1 => bentB_step F T D__law_take D__law_is D__law_odd D__law_name D__law_bent_row (ok_bentB F T D__law_take D__law_is D__law_odd D__law_name D__law_bent_row deep) fun d' e ds n Q R h => by cases e; exact h
end
end Aim
namespace Aim
open PySem PySem.Spec PyProof.Rows L2 RZ
open LamX (TabB)
section
variable {I : Int → Prop} {s : Nat}
theorem BV.kn (hs : s ≤ 2000) : ∀ {k : Nat} {d : Dat} (j : Nat), BV I s k d → Kn j d
  | k, d, 0, h => h.ty
  | 0, d, j + 1, h => ⟨BV.ty (k := 0) h, fun xs e => by subst e; exact h.elim⟩
  | k + 1, d, j + 1, h => ⟨BV.ty h, fun xs e => by
    subst e
    rcases h with h | ⟨ys, e, l, q⟩
    · exact h.elim
    · rcases e with e | e
      · cases e
        exact ⟨by omega, fun x hx => (q x hx).kn hs j⟩
      · cases e⟩
end
def I0 (i : Int) : Prop := 0 ≤ i ∧ i ≤ 9
def I1 (i : Int) : Prop := (-100 ≤ i ∧ i ≤ 100) ∨ i = 10 ^ 40
def I2 (i : Int) : Prop := i.natAbs < 10 ^ 50
theorem oddI1 : OddI I1 := ⟨.inl (by decide), .inl (by decide), .inr rfl⟩
theorem bend01 : BendI I0 I1 := ⟨oddI1, fun i h => .inl (by unfold I0 at h; omega), fun i h => ⟨.inl (by unfold I0 at h; omega), .inl (by unfold I0 at h; omega), .inl (by unfold I0 at h; omega)⟩, fun i h => by
  unfold I0 at h
  have : i.natAbs < 10 := by omega
  exact Nat.lt_trans this (by decide)⟩
theorem bend12 : BendI I1 I2 := by
  have small : ∀ i : Int, -1000 ≤ i → i ≤ 1000 → I2 i := fun i h1 h2 => by
    have : i.natAbs < 1001 := by omega
    exact Nat.lt_trans this (by decide)
  refine ⟨⟨small _ (by decide) (by decide), small _ (by decide) (by decide), by unfold I2; decide⟩, fun i h => ?_, fun i h => ?_, fun i h => ?_⟩
  · rcases h with h | rfl
    · exact small _ (by omega) (by omega)
    · unfold I2
      decide
  · rcases h with h | rfl
    · exact ⟨small _ (by omega) (by omega), small _ (by omega) (by omega), small _ (by omega) (by omega)⟩
    · exact ⟨by unfold I2; decide, by unfold I2; decide, by unfold I2; decide⟩
  · rcases h with h | rfl
    · exact small _ (by omega) (by omega)
    · decide
def Sm (k w : Nat) (d : Dat) : Prop := BV I0 40 k d ∧ wt d ≤ w
theorem Sm.le {k j w v : Nat} {d : Dat} (h : Sm k w d) (hj : k ≤ j) (hv : w ≤ v) : Sm j v d := by
  obtain ⟨h, z⟩ := h
  refine ⟨?_, by omega⟩
  clear z
  induction hj with
  | refl => exact h
  | step _ ih =>
    have up : ∀ {k : Nat} {d : Dat}, BV I0 40 k d → BV I0 40 (k + 1) d := fun {k} => by
      induction k with
      | zero => exact fun h => .inl h
      | succ k ih =>
        rintro d (h | ⟨xs, e, l, q⟩)
        · exact .inl h
        · exact .inr ⟨xs, e, l, fun x hx => ih (q x hx)⟩
    exact up ih
theorem wts_le {w : Nat} : ∀ {xs : List Dat}, (∀ x ∈ xs, wt x ≤ w) → wts xs ≤ xs.length * w
  | [], _ => Nat.zero_le _
  | x :: xs, h => by
    have h1 := h x List.mem_cons_self
    have h2 := wts_le fun y hy => h y (List.mem_cons_of_mem _ hy)
    show wt x + wts xs ≤ (xs.length + 1) * w
    rw [Nat.add_mul, Nat.one_mul]
    omega
theorem Sm.tup {k m w : Nat} {xs : List Dat} (hm : m ≤ 40) (hl : xs.length ≤ m) (h : ∀ x ∈ xs, Sm k w x) : Sm (k + 1) (m * w + 5) (.tup xs) := by
  refine ⟨.inr ⟨xs, .inl rfl, by omega, fun x hx => (h x hx).1⟩, ?_⟩
  have z := wts_le fun x hx => (h x hx).2
  have y := Nat.mul_le_mul_right w hl
  show wts xs + 5 ≤ _
  omega
theorem sm_str {x : Str} (h : isNameS x = true ∨ x = "" ∨ x = "put" ∨ x = "take" ∨ x = "swap" ∨ x = "push" ∨ x = "down" ∨ x = "up") : Sm 0 84 (.str x) := by
  rcases h with h | rfl | rfl | rfl | rfl | rfl | rfl | rfl
  · obtain ⟨x1, x8, hl⟩ := isNameS_of h
    refine ⟨?_, by show 10 * x.cps.size + 4 ≤ 84; omega⟩
    refine ⟨by show x.cps.size ≤ _; exact Nat.le_trans x8 (by decide +kernel), ?_⟩
    rw [Array.all_eq_true']
    intro c hc
    have := hl c (by simpa using hc)
    unfold isLet at this
    rw [decide_eq_true_eq]
    omega
  all_goals exact ⟨strB_dec (by decide +kernel), by decide⟩
theorem sm_name {d : Dat} (h : isNameD d = true) : Sm 0 84 d := by
  obtain ⟨x, rfl, hx⟩ := isNameD_of h
  exact sm_str (.inl hx)
theorem sm_two {k w : Nat} {a b : Dat} (ha : Sm k w a) (hb : Sm k w b) : Sm (k + 1) (2 * w + 5) (.tup [a, b]) := .tup (by decide) (Nat.le_refl _) fun y hy => by
  simp only [List.mem_cons, List.not_mem_nil, or_false] at hy
  rcases hy with rfl | rfl
  · exact ha
  · exact hb
theorem sm_three {k w : Nat} {a b c : Dat} (ha : Sm k w a) (hb : Sm k w b) (hc : Sm k w c) : Sm (k + 1) (3 * w + 5) (.tup [a, b, c]) := .tup (by decide) (Nat.le_refl _) fun y hy => by
  simp only [List.mem_cons, List.not_mem_nil, or_false] at hy
  rcases hy with rfl | rfl | rfl
  · exact ha
  · exact hb
  · exact hc
theorem sm_four {k w : Nat} {a b c d : Dat} (ha : Sm k w a) (hb : Sm k w b) (hc : Sm k w c) (hd : Sm k w d) : Sm (k + 1) (4 * w + 5) (.tup [a, b, c, d]) := .tup (by decide) (Nat.le_refl _) fun y hy => by
  simp only [List.mem_cons, List.not_mem_nil, or_false] at hy
  rcases hy with rfl | rfl | rfl | rfl
  · exact ha
  · exact hb
  · exact hc
  · exact hd
end Aim
namespace Aim
open PySem PySem.Spec PyProof.Rows L2 RZ
open LamX (TabB)
theorem sm_place {d : Dat} {ps : List Str} (h : isPlace d ps = true) : Sm 0 84 d := by
  unfold isPlace at h
  rw [Bool.and_eq_true] at h
  exact sm_name h.1
theorem sm_partO {d : Dat} {po : Option (List Str)} (h : isPartO d po = true) : Sm 0 84 d := by
  unfold isPartO at h
  rw [Bool.and_eq_true] at h
  exact sm_name h.1
theorem sm_change {ps : List Str} {po : Option (List Str)} {d : Dat} (h : isChange ps po d = true) : Sm 1 257 d := by
  rcases isChange_of h with ⟨p, rfl, h1⟩ | ⟨p, q, rfl, h1, h2⟩ | ⟨x, p, q, rfl, hx, h1, h2⟩
  · exact (sm_two (sm_str (by simp)) (sm_place h1)).le (by decide) (by decide)
  · exact sm_three (sm_str (by simp)) (sm_place h1) (sm_place h2)
  · exact sm_three (sm_str (by rcases hx with rfl | rfl <;> simp)) (sm_place h1) (sm_partO h2)
theorem sm_from {d : Dat} {lo hi : Int} (h : isFrom d lo hi = true) (h0 : 0 ≤ lo) (h9 : hi ≤ 9) : Sm 0 84 d := by
  obtain ⟨i, rfl, h1, h2⟩ := isFrom_of h
  exact ⟨show I0 i from ⟨by omega, by omega⟩, by show 60 ≤ 84; decide⟩
theorem sm_upd {ps : List Str} {po : Option (List Str)} {d : Dat} (h : isUpd ps po d = true) : Sm 3 3109 d := by
  obtain ⟨x, b, c, e, rfl, h1, h2, h3, h4⟩ := isUpd_of h
  have he : Sm 2 776 e := by
    unfold areChanges at h4
    split at h4
    · rename_i xs
      rw [Bool.and_eq_true, Bool.and_eq_true, decide_eq_true_eq, decide_eq_true_eq] at h4
      exact Sm.tup (m := 3) (by decide) h4.1.2 fun z hz => sm_change (List.all_eq_true.mp h4.2 z hz)
    · cases h4
  have hc : Sm 0 84 c := by
    rw [Bool.or_eq_true] at h3
    rcases h3 with h3 | h3
    · cases c <;> first | exact ⟨trivial, by decide⟩ | cases h3
    · obtain ⟨i, rfl, q1, q2⟩ := isFrom_of h2
      exact sm_from h3 q1 (by decide)
  exact sm_four ((sm_str (.inl h1)).le (by decide) (by decide)) ((sm_from h2 (by decide) (by decide)).le (by decide) (by decide)) (hc.le (by decide) (by decide)) he
theorem sm_rows {ps : List Str} {po : Option (List Str)} {d : Dat} (h : areRows d ps po = true) (hp : ps.length ≤ 4) : Sm 2 697 d := by
  have few := h
  unfold areRows at h
  split at h
  · rename_i xs
    rw [Bool.and_eq_true] at h
    refine Sm.tup (m := 4) (w := 173) (by decide) (Nat.le_trans (rows_few few) hp) fun z hz => ?_
    obtain ⟨a, b, rfl, h1, h2, h3⟩ := rowOk_of (List.all_eq_true.mp h.1 z hz)
    exact sm_two (sm_name h1) (sm_partO h3)
  · cases h
theorem sm_ways {ps rs : List Str} {d : Dat} (h : areWays d ps rs = true) : Sm 2 1043 d := by
  unfold areWays at h
  split at h
  · rename_i xs
    rw [Bool.and_eq_true, Bool.and_eq_true] at h
    obtain ⟨h0, _, _, hl⟩ := areNames_all h.1.2
    rw [List.length_map] at hl
    refine Sm.tup (m := 6) (w := 173) (xs := xs) (by decide) (by omega) fun z hz => ?_
    obtain ⟨a, b, rfl⟩ := pair_of (List.all_eq_true.mp h.1.1 z hz)
    have w : (memS a ps && isNameD b && memS b rs) = true := List.all_eq_true.mp h.2 _ hz
    rw [Bool.and_eq_true, Bool.and_eq_true] at w
    exact sm_two (sm_name (List.all_eq_true.mp h0 a (List.mem_map.mpr ⟨_, hz, rfl⟩))) (sm_name w.1.2)
  · cases h
theorem WOk.small {ps : List Str} {l : List (Str × Dat × Str)} {rs : List Dat} (W : WOk ps l rs) : Sm 1 341 (namesD ps) ∧ Sm 2 1547 (partsD l) ∧ Sm 6 149337 (.tup rs) := by
  obtain ⟨ts, e1, _, nm, hr⟩ := W.rt
  refine ⟨Sm.tup (m := 4) (w := 84) (xs := ps.map .str) (by decide) (by rw [List.length_map]; exact W.pl.2) fun y hy => ?_, Sm.tup (m := 6) (w := 257) (xs := l.map fun p => Dat.tup [.str p.1, p.2.1, .str p.2.2]) (by decide) (by rw [List.length_map]; exact W.ll.2) fun y hy => ?_, Sm.tup (m := 4) (w := 37333) (by decide) W.rl.2 fun r hr2 => ?_⟩
  · obtain ⟨x, hx, rfl⟩ := List.mem_map.mp hy
    exact sm_str (.inl (W.pm x hx))
  · obtain ⟨p, hp, rfl⟩ := List.mem_map.mp hy
    obtain ⟨q1, q2⟩ := W.lp p hp
    have ha : Sm 0 84 p.2.1 := by
      revert q1
      generalize p.2.1 = b
      intro q1
      cases b <;> first
        | (have z := of_decide_eq_true q1; exact sm_str (by rcases z with rfl | rfl <;> simp))
        | cases q1
    exact sm_three (sm_str (.inl (W.lm p.1 (List.mem_map.mpr ⟨p, hp, rfl⟩)))) ha (sm_str (by rcases q2 with q2 | q2; exact .inl q2; exact .inr (.inl q2)))
  · have hf : ∃ t, firstOf r = .str t ∧ isNameS t = true := by
      have z : firstOf r ∈ rs.map firstOf := List.mem_map.mpr ⟨r, hr2, rfl⟩
      rw [e1] at z
      obtain ⟨t, ht, e⟩ := List.mem_map.mp z
      exact ⟨t, e.symm, nm t ht⟩
    obtain ⟨t, et, nt⟩ := hf
    obtain ⟨a, b, us, e, rfl, q1, q2, q3, q4⟩ := isRoom_of (hr r hr2).2
    have et : a = .str t := et
    subst et
    have hu : Sm 4 9332 (.tup us) := Sm.tup (m := 3) (by decide) q2 fun z hz => sm_upd (List.all_eq_true.mp q3 z hz)
    exact sm_four ((sm_str (.inl nt)).le (by decide) (by decide)) ((sm_rows q1 W.pl.2).le (by decide) (by decide)) hu ((sm_ways q4).le (by decide) (by decide))
end Aim
namespace Aim
open PySem PySem.Spec PyProof.Rows L2
open LamX (TabB)
section
variable {X : Cx} {K : PySem.W.Frag} {TT : List (Addr × Str)} {E : XK}
theorem caught_exc {C AE : Addr} {d : Dat} {n : Nat} {ρ : List Sl} {P : DN} {f : DE} {tg : DG} {g : DS} (hx : PySem.W.exmOne K (.ref C) (.ref AE) = some true) (hf : ∀ (Q : Dat → Nat → Prop) (R' : RX), R' C d n → f ρ n Q R') (h : tg (.exc C d) ρ fun ρ' => g P ρ' n) : dSeq (dAsg (dCaught K AE f) tg) g P ρ n := hf _ _ ⟨hx, h⟩
theorem caught_ok {AE : Addr} {n : Nat} {ρ : List Sl} {P : DN} {f : DE} {tg : DG} {g : DS} (hf : ∀ (Q : Dat → Nat → Prop) (R' : RX), (∀ d, Q d n) → f ρ n Q R') (h : tg .non ρ fun ρ' => g P ρ' n) : dSeq (dAsg (dCaught K AE f) tg) g P ρ n := hf _ _ fun _ => h
end
theorem dg_go {i : Nat} {d : Dat} {ρ : List Sl} {P : List Sl → Prop} (h : P (ρ.set i (.val d))) : dgName i d ρ P := h
theorem nx_go {g : DS} {P : DN} {ρ : List Sl} {n : Nat} {rt : Dat → Nat → Prop} {ex : RX} (h : g P ρ n) : GDN.nx (S := Nat) { nx := g P, rt := rt, ex := ex } ρ n := h
end Aim
namespace Aim
open PySem PySem.Spec PyProof.Rows L2 RZ
open LamX (TabB)
section
variable {P : Program} {w : World} {K : PySem.W.Frag} {mg : Str → Option Value} {base : Heap} {TT : List (Addr × Str)}
section
variable {stI : Stmt} {C fI AE C_BadAims C_BadBytes c Pt : Addr}
theorem DeedsOf.names {ps : List Str} {l : List (Str × Dat × Str)} {rs : List Dat} {ys : List Str} (D : DeedsOf l ys) (W : WOk ps l rs) : ∀ y ∈ ys, isNameS y = true := fun y hy => by
  have z := (D.mem y).mp hy
  unfold deedsP at z
  obtain ⟨p, hp, rfl⟩ := List.mem_map.mp z
  obtain ⟨h1, h2⟩ := List.mem_filter.mp hp
  rcases (W.lp p h1).2 with q | q
  · exact q
  · exact absurd q (of_decide_eq_true h2)
theorem BV.len {I : Int → Prop} {s k : Nat} {xs : List Dat} (h : BV I s (k + 1) (.tup xs)) : xs.length ≤ s := by
  rcases h with h | ⟨ys, e, l, _⟩
  · exact h.elim
  · rcases e with e | e
    · cases e
      exact l
    · cases e
structure ErrBX (K : PySem.W.Frag) (AE C_BadAims C_BadBytes : Addr) : Prop where
  x1 : PySem.W.exmOne K (.ref C_BadAims) (.ref AE) = some true
  x2 : PySem.W.exmOne K (.ref C_BadBytes) (.ref AE) = some true
  i1 : PySem.W.kitOne K (.ref C_BadAims) (.ref C_BadAims) = some true
  i2 : PySem.W.kitOne K (.ref C_BadBytes) (.ref C_BadBytes) = some true
abbrev qualA : Str := (envOfC ("_law_aims_right" : Str) (defScope (top 87)) 0 0 (.ref 0)).qual ++ "<lambda>"
def spAimsR (C : Addr) : DSp := fun ds n Q _ => ∃ ps l rs ys, ds = [.pot, wld ps l rs, progD C ps l rs ys] ∧ WOk ps l rs ∧ DeedsOf l ys ∧ n < 700000 ∧ ∀ m, n ≤ m → m ≤ n + 300 → Q (.bl true) m
theorem sc__law_aims_right : FnScope ["_law_pot_here", "_law_world_here", "_law_made", "_law_some", "_law_caught_here", "_law_aim"] ["_law_pot_here", "_law_world_here", "_law_made"] (defScope (top 87)) := ⟨rfl, rfl, rfl, by decide +kernel, rfl, by decide +kernel, by decide +kernel⟩
theorem ok_aims_right (hmT : (Pt, qualA) ∈ TT) (hu : ∀ p ∈ TT, p.1 = Pt → p.2 = qualA) (TB : TabB base mg c Pt) (SY : SysB base) (F : HasC K mg "_law_aims_right" (top 87) c) (T : Blt mg) (Z : ErrB P K mg stI fI AE C_BadAims C_BadBytes) (ZX : ErrBX K AE C_BadAims C_BadBytes) (U : CauT K mg (top 77) AE)
    (D__law_bent : Df P w K mg base false 7 "_law_bent" (LSp K TT (spBentX 2))) (D__law_aims : Df P w K mg base false 3 "_law_aims" (LSp K TT spLAims)) (D__law_is_aim : Df P w K mg base false 2 "_law_is_aim" (LSp K TT spLIsAim)) (D__law_same : Df P w K mg base false 5 "_law_same" (LSp K TT (spSame 3)))
    (D_aim_bytes : Df P w K mg base false 6 "aim_bytes" (LSp K TT (spAimBytes C C_BadAims))) (D_read_aims : Df P w K mg base false 4 "read_aims" (LSp K TT (spReadAims C C_BadBytes))) : Df P w K mg base true 16 "_law_aims_right" (LSp K TT (spAimsR C)) := by
  refine dat_okCX F (fun _ _ _ _ _ _ us hl => by obtain ⟨x0, x1, x2, rfl⟩ := us3 hl; rfl) sc__law_aims_right (fun f A outer s H E hr hG => ⟨_, (dss_cons (ds_set (i := 3) sc__law_aims_right.nd rfl (Or.inr rfl) (de_call D__law_bent hr (by first | decide | omega) (by first | exact hG | (intro z; cases z)) rfl (passes_call (takes_of rfl rfl rfl rfl) (fun _ _ _ _ h => h)) (da_cons (de_var (pv 0)) (da_cons (de_call D__law_aims hr (by first | decide | omega) (by first | exact hG | (intro z; cases z)) rfl (passes_call (takes_of rfl rfl rfl rfl) (fun _ _ _ _ h => h)) (da_cons (de_var (pv 0)) (da_cons (de_var (pv 1)) (da_cons de_int da_nil)))) (da_cons de_int da_nil)))))
      (dss_cons (ds_set (i := 4) sc__law_aims_right.nd rfl (Or.inl rfl) (de_caught (pe_caught (k := 12) U rfl TB rfl hmT hu (hr.mono (by decide)) (LamX.lamS_by rfl) rfl (fun _ _ _ _ _ => rfl) (fun A outer s H E f c' hr => (de_call D_aim_bytes hr (by first | decide | omega) (by first | exact hG | (intro z; cases z)) rfl (passes_call (takes_of rfl rfl rfl rfl) (fun _ _ _ _ h => h)) (da_cons (de_var (pv 2)) (da_cons (de_var (pv 3)) da_nil)))))))
      (dss_cons (ds_if (PW.pt (dw_and (dt_val (de_cb (cd_isT (T := "tuple") (by simp)) (pe_callB call_isi rfl T.n_isinstance boot_isinstance (da_cons (de_var (pv 3)) (da_cons (de_c (pe_bltn (v := .ty "tuple") rfl T.n_tuple boot_tuple rfl) (fun _ _ => .ty _)) da_nil))))) (dw_and1 (dt_val (de_cb cd_all (pe_callB (cr_all rfl) rfl T.n_all boot_all (da_cons (de_fr (lf_lcI (own := [("_law_aim", 5)]) rfl sc__law_aims_right.nd (di_tup (de_var (pv 3))) (blkOk_by rfl) (fun _ _ _ _ _ => (dg_name (pg_name (i := 5) sc__law_aims_right.nd rfl (Or.inl rfl) (Or.inr rfl)))) (fun _ _ _ _ _ => dts_nil) (fun _ _ _ _ _ => (de_call D__law_is_aim hr (by first | decide | omega) (by first | exact hG | (intro z; cases z)) rfl passL (da_cons (de_var (pv 1)) (da_cons (de_var (pv 5)) da_nil)))))) da_nil))))))) (dss_one (ds_ret (de_and (de_isN (de_var (pv 4))) (de_one (de_call D__law_same hr (by first | decide | omega) (by first | exact hG | (intro z; cases z)) rfl (passes_call (takes_of rfl rfl rfl rfl) (fun _ _ _ _ h => h)) (da_cons (de_call D_read_aims hr (by first | decide | omega) (by first | exact hG | (intro z; cases z)) rfl (passes_call (takes_of rfl rfl rfl rfl) (fun _ _ _ _ h => h)) (da_cons (de_var (pv 2)) (da_cons (de_call D_aim_bytes hr (by first | decide | omega) (by first | exact hG | (intro z; cases z)) rfl (passes_call (takes_of rfl rfl rfl rfl) (fun _ _ _ _ h => h)) (da_cons (de_var (pv 2)) (da_cons (de_var (pv 3)) da_nil))) da_nil))) (da_cons (de_var (pv 3)) da_nil))))))) dss_nil)
      (dss_one (ds_ret (de_and (de_isX (pe_callB call_isiX rfl T.n_isinstance boot_isinstance (pa_cons (de_var (pv 4)) (pa_cons (pe_glob (v := .ref C_BadAims) rfl Z.m_BadAims rfl) pa_nil)))) (de_one (de_repEq (pe_callB (call_reprS SY (hG rfl) hr.units) rfl T.n_repr boot_repr (pa_cons (de_val Z.c_BadAims (pe_xcv (de_var (pv 4)))) pa_nil)) (pe_callB (call_reprS SY (hG rfl) hr.units) rfl T.n_repr boot_repr (pa_cons (de_var (pv 3)) pa_nil)) (nomark _))))))))), fun ds n PP R h => ?_⟩) (fun ds n PP R h => ?_)
  · obtain ⟨ps, l, rs, ys, rfl, W, D, hn, k⟩ := h
    refine ⟨rfl, ?_⟩
    have few := D.few W.ll.2
    have pl := W.pl
    have p10 : ps.length ≤ 10 := by omega
    refine ⟨ps, l, rs, ys, 4, rfl, W, D, by decide, by omega, fun as m ok la h0 h1 => ?_⟩
    have sm : Sm 2 700 (.tup (as.map aimD)) := by
      refine (Sm.tup (m := 4) (w := 173) (k := 1) (by decide) (by rw [List.length_map]; exact la) fun x hx => ?_).le (by decide) (by decide)
      obtain ⟨a, ha, rfl⟩ := List.mem_map.mp hx
      obtain ⟨q1, q2⟩ := ok a ha
      refine sm_two (sm_str (.inl (W.pm _ q1))) (sm_str ?_)
      rcases List.mem_cons.mp q2 with e | e
      · exact .inr (.inl e)
      · exact .inl (D.names W _ e)
    refine ⟨I0, I1, bend01, 2, 40, _, rfl, by decide, by decide, by decide, sm.1, by have := sm.2; omega, by omega, fun v m2 h2 h3 hv hw => ?_⟩
    have kv : ∀ k, Kn k v := fun k => hv.kn (by decide) k
    have sv : ShowD v := hv.showD bend12.lim (by decide) (by have := sm.2; omega)
    refine dg_go (nx_go ?_)
    cases hv2 : isAims ps ys v with
    | false =>
      refine caught_exc (C := C_BadAims) (d := v) ZX.x1 (fun Q R' h => ⟨ps, l, rs, ys, v, rfl, W.pm, p10, few, kv 2, fun _ => h, fun bs e ok2 => (by rw [e, isAims_ok W.pm ok2] at hv2; cases hv2)⟩) ?_
      have tr : ∀ x : Str, (false ^^ decide (x = x)) = true := fun x => by simp
      have fin : ∀ s5 : Sl, dRet (dAnd (dUn (gIsX K C_BadAims) (dVar 4)) (dRep2 false (dUn (gVal C_BadAims) (dVar 4)) (dVar 3))) { nx := fun x m => PP Dat.non m, rt := PP, ex := R } [.val .pot, .val (wld ps l rs), .val (progD C ps l rs ys), .val v, .val (.exc C_BadAims v), s5] m2 := fun s5 => by
        refine ⟨⟨fI, AE, Z.c_BadAims⟩, true, ZX.i1, ?_⟩
        refine ⟨rfl, sv, sv, ?_⟩
        rw [tr]
        exact k _ (by omega) (by omega)
      rcases tup_orK (kv 0) with ⟨xs, rfl⟩ | ⟨t, et, e2⟩
      · obtain ⟨_, kk⟩ := (kv 2).inn
        refine ⟨rfl, ?_⟩
        refine compI_bools (isAim ps ys) (fun p hp Q q => ⟨ps, l, rs, ys, p, rfl, W, D, kk p hp, q⟩) ?_
        rw [all_map_id]
        have hv2 : xs.all (isAim ps ys) = false := hv2
        rw [hv2]
        exact fin _
      · refine ⟨rfl, opt_no et ?_⟩
        rw [e2]
        exact iteF (A := True) (fin _)
    | true =>
      refine caught_ok (fun Q R' h => ⟨ps, l, rs, ys, v, rfl, W.pm, p10, few, kv 2, fun z => (by rw [hv2] at z; cases z), fun bs e ok2 => h _⟩) ?_
      have tp : ∃ xs, v = .tup xs ∧ xs.all (isAim ps ys) = true := by
        cases v <;> first | exact ⟨_, rfl, hv2⟩ | cases hv2
      obtain ⟨xs, rfl, hx⟩ := tp
      obtain ⟨bs, rfl, ok2⟩ := isAims_of hx
      obtain ⟨bl, kk⟩ := (kv 2).inn
      refine ⟨rfl, ?_⟩
      refine compI_bools (isAim ps ys) (fun p hp Q q => ⟨ps, l, rs, ys, p, rfl, W, D, kk p hp, q⟩) ?_
      rw [all_map_id, hx]
      refine iteT (B := True) ?_
      have bl : bs.length ≤ 1000 := by
        have z := hv.len
        rw [List.length_map] at z
        omega
      refine ⟨ps, l, rs, ys, _, rfl, W.pm, p10, few, kv 2, fun z => (by rw [hv2] at z; cases z), fun cs e _ => ?_⟩
      obtain rfl := aims_inj (Dat.tup.inj e)
      have ca := codes_bytes ok2 p10 few
      refine ⟨ps, l, rs, ys, _, rfl, p10, few, rfl, fun h => absurd rfl (h _), fun b e => ?_⟩
      cases e
      have ba := bytes_size ps ys bs
      refine ⟨by omega, fun i h => (by rw [ca, okB_codes (k := 0) ok2 rfl] at h; cases h), fun _ h => (by omega), fun _ _ => ?_⟩
      rw [ca, read_codes ok2]
      have L1 := aims_lvl bs
      refine ⟨_, _, rfl, lvl_up L1.1, L1.2, L1.2, ?_⟩
      rw [sameD_refl L1.1 L1.2]
      exact k _ (by omega) (by omega)
  · obtain ⟨ps, l, rs, ys, rfl, _⟩ := h
    rfl
abbrev qualB : Str := (envOfC ("_law_bytes_right" : Str) (defScope (top 90)) 0 0 (.ref 0)).qual ++ "<lambda>"
theorem codeD_map (b : Array UInt8) : (numL 0 (((b.size : Nat) : Int).toNat)).map (codeD b) = (codesB b).map fun c => .int (c : Nat) := by
  refine List.ext_getElem? fun i => ?_
  rw [Int.toNat_natCast, List.getElem?_map, List.getElem?_map]
  by_cases h : i < b.size
  · rw [numL_get _ _ _ h, Int.zero_add]
    have h2 : i < (codesB b).length := by rw [codesB_len]; exact h
    rw [List.getElem?_eq_getElem h2]
    show some (Dat.int ((codesB b).getD i 0 : Nat)) = _
    rw [List.getD_eq_getElem?_getD, List.getElem?_eq_getElem h2]
    rfl
  · rw [List.getElem?_eq_none (by rw [numL_len]; omega), List.getElem?_eq_none (by rw [codesB_len]; omega)]
    rfl
theorem picked_le (b : Array UInt8) (lo hi : Option Int) : (PySem.W.KBy.picked b lo hi).size ≤ b.size := by
  rw [PySem.W.KBc.picked_eq, List.size_toArray, List.length_take, List.length_drop, Array.length_toList]
  omega
theorem codesB_small (b : Array UInt8) : ∀ c ∈ codesB b, c < 256 := fun c hc => by
  obtain ⟨u, _, rfl⟩ := List.mem_map.mp hc
  exact u.toNat_lt
def spBytesR (C : Addr) : DSp := fun ds n Q _ => ∃ ps l rs ps2 l2 rs2, ds = [.pot, wld ps l rs, wld ps2 l2 rs2] ∧ WOk ps l rs ∧ WOk ps2 l2 rs2 ∧ n < 700000 ∧ ∀ m, n ≤ m → m ≤ n + 300 → Q (.bl true) m
theorem sc__law_bytes_right : FnScope ["_law_pot_here", "_law_world_here", "_law_other", "_law_data", "_law_kind", "_law_codes", "_law_due", "_law_caught_here", "_law_made", "_law_reader", "_law_at"] ["_law_pot_here", "_law_world_here", "_law_other"] (defScope (top 90)) := ⟨rfl, rfl, rfl, by decide +kernel, rfl, by decide +kernel, by decide +kernel⟩
theorem ok_bytes_right (hmT : (Pt, qualB) ∈ TT) (hu : ∀ p ∈ TT, p.1 = Pt → p.2 = qualB) (TB : TabB base mg c Pt) (F : HasC K mg "_law_bytes_right" (top 90) c) (T : Blt mg) (Z : ErrB P K mg stI fI AE C_BadAims C_BadBytes) (ZX : ErrBX K AE C_BadAims C_BadBytes) (U : CauT K mg (top 77) AE)
    (V_Program : ClsProgram K mg C) (M_Program : DfI P w K mg base TT 10 C (spProgramS C)) (D__law_take : Df P w K mg base false 1 "_law_take" (LSp K TT spTake)) (D__law_aims : Df P w K mg base false 3 "_law_aims" (LSp K TT spLAims)) (D__law_bad : Df P w K mg base false 2 "_law_bad" (LSp K TT spBad)) (D__law_told : Df P w K mg base false 2 "_law_told" (LSp K TT spTold)) (D__law_same : Df P w K mg base false 5 "_law_same" (LSp K TT (spSame 3)))
    (D_aim_bytes : Df P w K mg base false 6 "aim_bytes" (LSp K TT (spAimBytes C C_BadAims))) (D_read_aims : Df P w K mg base false 4 "read_aims" (LSp K TT (spReadAims C C_BadBytes))) : Df P w K mg base true 16 "_law_bytes_right" (LSp K TT (spBytesR C)) := by
  refine dat_okCX F (fun _ _ _ _ _ _ us hl => by obtain ⟨x0, x1, x2, rfl⟩ := us3 hl; rfl) sc__law_bytes_right (fun f A outer s H E hr hG => ⟨_, (dss_cons (ds_names (is := [8, 9]) rfl (ps_asg (pe_tup (das_val (de_make M_Program hr (by first | decide | omega) rfl V_Program.mg (passes_call (takes_of rfl rfl rfl rfl) (fun _ _ _ _ h => h)) (da_cons (de_ix ix_seq od_ix (de_var (pv 1)) de_int (fun _ _ => rfl)) (da_cons (de_ix ix_seq od_ix (de_var (pv 1)) de_int (fun _ _ => rfl)) (da_cons (de_ix ix_seq od_ix (de_var (pv 1)) de_int (fun _ _ => rfl)) da_nil)))) (das_val (de_make M_Program hr (by first | decide | omega) rfl V_Program.mg (passes_call (takes_of rfl rfl rfl rfl) (fun _ _ _ _ h => h)) (da_cons (de_ix ix_seq od_ix (de_var (pv 2)) de_int (fun _ _ => rfl)) (da_cons (de_ix ix_seq od_ix (de_var (pv 2)) de_int (fun _ _ => rfl)) (da_cons (de_ix ix_seq od_ix (de_var (pv 2)) de_int (fun _ _ => rfl)) da_nil)))) das_nil))) (pg_tup rfl (pgs_cons (pg_name (i := 8) sc__law_bytes_right.nd rfl (Or.inl rfl)) (pgs_cons (pg_name (i := 9) sc__law_bytes_right.nd rfl (Or.inr rfl)) pgs_nil)))))
      (dss_cons (ds_set (i := 3) sc__law_bytes_right.nd rfl (Or.inr rfl) (de_call D_aim_bytes hr (by first | decide | omega) (by first | exact hG | (intro z; cases z)) rfl (passes_call (takes_of rfl rfl rfl rfl) (fun _ _ _ _ h => h)) (da_cons (de_var (pv 8)) (da_cons (de_call D__law_aims hr (by first | decide | omega) (by first | exact hG | (intro z; cases z)) rfl (passes_call (takes_of rfl rfl rfl rfl) (fun _ _ _ _ h => h)) (da_cons (de_var (pv 0)) (da_cons (de_var (pv 1)) (da_cons de_int da_nil)))) da_nil))))
      (dss_cons (ds_set (i := 4) sc__law_bytes_right.nd rfl (Or.inl rfl) (de_call D__law_take hr (by first | decide | omega) (by first | exact hG | (intro z; cases z)) rfl (passes_call (takes_of rfl rfl rfl rfl) (fun _ _ _ _ h => h)) (da_cons (de_var (pv 0)) (da_cons de_int da_nil))))
      (dss_cut (ds_if (dt_cmp op_gt (od_IB _) (de_var (pv 4)) de_int (nomark _)) (dss_one (ds_set (i := 3) sc__law_bytes_right.nd rfl (Or.inr rfl) (de_if (dt_cmp (op_eqDD hr.units) od_eq (de_var (pv 4)) de_int (nomark _)) (de_bsl (de_var (pv 3)) (do_some de_int) do_none) (de_bsl (de_var (pv 3)) do_none (do_some (de_neg de_int)))))) dss_nil)
      (dss_cons (ds_setF (st_lcI (own := [("_law_at", 10)]) rfl sc__law_bytes_right.nd (i := 5) rfl rfl rfl (di_rng1 (pi_range1 rfl T.n_range (da_cons (de_cb cd_len (pe_callB call_len rfl T.n_len boot_len (da_cons (de_var (pv 3)) da_nil))) da_nil))) (blkOk_by rfl) (fun _ _ _ _ _ => (dg_name (pg_name (i := 10) sc__law_bytes_right.nd rfl (Or.inl rfl) (Or.inr rfl)))) (fun _ _ _ _ _ => dts_nil) (fun _ _ _ _ _ => (de_bix (de_var (pv 3)) (de_var (pv 10)) (fun _ _ => rfl)))))
      (dss_cons (ds_set (i := 6) sc__law_bytes_right.nd rfl (Or.inl rfl) (de_call D__law_bad hr (by first | decide | omega) (by first | exact hG | (intro z; cases z)) rfl (passes_call (takes_of rfl rfl rfl rfl) (fun _ _ _ _ h => h)) (da_cons (de_var (pv 2)) (da_cons (de_var (pv 5)) da_nil))))
      (dss_cons (ds_set (i := 7) sc__law_bytes_right.nd rfl (Or.inl rfl) (de_caught (pe_caught (k := 12) U rfl TB rfl hmT hu (hr.mono (by decide)) (LamX.lamS_by rfl) rfl (fun _ _ _ _ _ => rfl) (fun A outer s H E f c' hr => (de_call D_read_aims hr (by first | decide | omega) (by first | exact hG | (intro z; cases z)) rfl (passes_call (takes_of rfl rfl rfl rfl) (fun _ _ _ _ h => h)) (da_cons (de_var (pv 9)) (da_cons (de_var (pv 3)) da_nil)))))))
      (dss_cons (ds_if (dt_cmp (op_eqDD hr.units) od_eq (de_var (pv 6)) (de_neg de_int) (nomark _)) (dss_one (ds_ret (de_and (de_isN (de_var (pv 7))) (de_one (de_call D__law_same hr (by first | decide | omega) (by first | exact hG | (intro z; cases z)) rfl (passes_call (takes_of rfl rfl rfl rfl) (fun _ _ _ _ h => h)) (da_cons (de_call D_read_aims hr (by first | decide | omega) (by first | exact hG | (intro z; cases z)) rfl (passes_call (takes_of rfl rfl rfl rfl) (fun _ _ _ _ h => h)) (da_cons (de_var (pv 9)) (da_cons (de_var (pv 3)) da_nil))) (da_cons (de_call D__law_told hr (by first | decide | omega) (by first | exact hG | (intro z; cases z)) rfl (passes_call (takes_of rfl rfl rfl rfl) (fun _ _ _ _ h => h)) (da_cons (de_var (pv 2)) (da_cons (de_var (pv 5)) da_nil))) da_nil))))))) dss_nil)
      (dss_one (ds_ret (de_and (de_isX (pe_callB call_isiX rfl T.n_isinstance boot_isinstance (pa_cons (de_var (pv 7)) (pa_cons (pe_glob (v := .ref C_BadBytes) rfl Z.m_BadBytes rfl) pa_nil)))) (de_one (de_call D__law_same hr (by first | decide | omega) (by first | exact hG | (intro z; cases z)) rfl (passes_call (takes_of rfl rfl rfl rfl) (fun _ _ _ _ h => h)) (da_cons (de_val Z.c_BadBytes (pe_xcv (de_var (pv 7)))) (da_cons (de_var (pv 6)) da_nil))))))))))))))), fun ds n PP R h => ?_⟩) (fun ds n PP R h => ?_)
  · obtain ⟨ps, l, rs, ps2, l2, rs2, rfl, W, W2, hn, k⟩ := h
    refine ⟨rfl, ?_⟩
    refine ⟨ps, l, rs, rfl, W, fun ys D => ?_⟩
    refine ⟨ps2, l2, rs2, rfl, W2, fun ys2 D2 => ?_⟩
    have few := D.few W.ll.2
    have few2 := D2.few W2.ll.2
    have pl := W.pl
    have pl2 := W2.pl
    have p10 : ps.length ≤ 10 := by omega
    have p102 : ps2.length ≤ 10 := by omega
    refine ⟨rfl, by decide, ps, l, rs, ys, 6, rfl, W, D, by decide, by omega, fun as m ok la h0 h1 => ?_⟩
    refine ⟨ps, l, rs, ys, _, rfl, W.pm, p10, few, kn_aims (by omega), fun h => (by rw [isAims_ok W.pm ok] at h; cases h), fun bs e _ => ?_⟩
    obtain rfl := aims_inj (Dat.tup.inj e)
    have bsz := bytes_size ps ys as
    have pk : ∀ lo hi, (PySem.W.KBy.picked (bytesA ps ys as) lo hi).size ≤ 100 := fun lo hi => Nat.le_trans (picked_le _ _ _) (by omega)
    refine ⟨_, rfl, by omega, by decide, by decide, fun r r0 r1 => ?_⟩
    refine ⟨fun ρ' m' => ∃ b : Array UInt8, ρ' = [.val .pot, .val (wld ps l rs), .val (wld ps2 l2 rs2), .val (.byt b), .val (.int r), .no, .no, .no, .val (progD C ps l rs ys), .val (progD C ps2 l2 rs2 ys2), .no] ∧ n ≤ m' ∧ m' ≤ n + 200 ∧ b.size ≤ 100, ?_, ?_⟩
    · refine ite2 (fun _ => ?_) (fun _ => ⟨_, rfl, by omega, by omega, by omega⟩)
      refine ⟨⟨cmp_fl rfl, cmp_fl rfl⟩, ?_⟩
      refine ite2 (fun _ => ?_) (fun _ => ?_)
      · exact ⟨by omega, _, rfl, by omega, by omega, pk _ _⟩
      · exact ⟨by omega, _, rfl, by omega, by omega, pk _ _⟩
    · rintro ρ' m' ⟨b, rfl, m0, m1, hb⟩
      refine ⟨⟨by omega, by omega⟩, ?_⟩
      refine compI_map (codeD b) (fun d hd Q q => ?_) ?_
      · obtain ⟨i, hi⟩ := List.mem_iff_getElem?.mp hd
        have hi2 := (List.getElem?_eq_some_iff.mp hi).1
        rw [numL_len] at hi2
        have hi2 : i < b.size := by omega
        rw [numL_get _ _ _ (by omega), Int.zero_add] at hi
        cases hi
        refine ⟨by omega, by omega, ?_⟩
        have q : Q (.int ((codesB b).getD i 0 : Nat)) m' := q
        rw [← getD_codes] at q
        exact q
      rw [codeD_map]
      have cl := codesB_len b
      refine ⟨ps2, l2, rs2, ys2, codesB b, rfl, W2, D2, by omega, codesB_small b, ?_⟩
      have key : (∃ z : Int, badV ps2 ys2 (codesB b) = z ∧ z ≠ -2 ∧ ∀ (Q : Dat → Nat → Prop) (R' : RX), R' C_BadBytes (.int z) m' → spReadAims C C_BadBytes [progD C ps2 l2 rs2 ys2, .byt b] m' Q R')
          ∨ (badV ps2 ys2 (codesB b) = -2 ∧ badB ps2 ys2 0 (codesB b) = none ∧ (codesB b).length % 2 = 0 ∧ ∀ (Q : Dat → Nat → Prop) (R' : RX), Q (.tup ((readA ps2 ys2 (codesB b)).map aimD)) m' → spReadAims C C_BadBytes [progD C ps2 l2 rs2 ys2, .byt b] m' Q R') := by
        cases hbad : badB ps2 ys2 0 (codesB b) with
        | some i =>
          refine .inl ⟨(i : Nat), by unfold badV; rw [hbad], by omega, fun Q R' h => ⟨ps2, l2, rs2, ys2, _, rfl, p102, few2, rfl, fun z => absurd rfl (z _), fun b' e => ?_⟩⟩
          cases e
          refine ⟨by omega, fun i' hi' => ?_, fun z => ?_, fun z => ?_⟩
          · rw [hbad] at hi'
            cases hi'
            exact h
          · rw [hbad] at z
            cases z
          · rw [hbad] at z
            cases z
        | none =>
          have ev : badV ps2 ys2 (codesB b) = if (codesB b).length % 2 = 1 then (((codesB b).length : Nat) : Int) else -2 := by unfold badV; rw [hbad]
          rw [cl] at ev
          by_cases o : b.size % 2 = 1
          · rw [if_pos o] at ev
            refine .inl ⟨(b.size : Nat), ev, by omega, fun Q R' h => ⟨ps2, l2, rs2, ys2, _, rfl, p102, few2, rfl, fun z => absurd rfl (z _), fun b' e => ?_⟩⟩
            cases e
            refine ⟨by omega, fun i' hi' => ?_, fun _ _ => h, fun _ z => absurd o (by omega)⟩
            rw [hbad] at hi'
            cases hi'
          · rw [if_neg o] at ev
            refine .inr ⟨ev, rfl, by omega, fun Q R' h => ?_⟩
            refine ⟨ps2, l2, rs2, ys2, _, rfl, p102, few2, rfl, fun z => absurd rfl (z _), fun b' e => ?_⟩
            cases e
            refine ⟨by omega, fun i' hi' => ?_, fun _ z => absurd z o, fun _ _ => h⟩
            rw [hbad] at hi'
            cases hi'
      rcases key with ⟨z, ez, nz, hz⟩ | ⟨ev, hbad, o, rd⟩
      · rw [ez]
        refine dg_go (nx_go ?_)
        refine caught_exc (C := C_BadBytes) (d := .int z) ZX.x2 hz ?_
        refine ⟨⟨cmp_fl rfl, cmp_fl rfl⟩, ?_⟩
        have ne : eqD (.int z) (.int (-2)) = false := by
          show (z == -2) = false
          exact beq_eq_false_iff_ne.mpr nz
        show if eqD (.int z) (.int (-2)) = true then _ else _
        rw [ne]
        refine iteF ?_
        refine ⟨⟨fI, AE, Z.c_BadBytes⟩, true, ZX.i2, ?_⟩
        refine ⟨rfl, _, _, rfl, .inl rfl, rfl, rfl, ?_⟩
        show PP (.bl (z == z)) m'
        rw [beq_self_eq_true]
        exact k _ (by omega) (by omega)
      · obtain ⟨z, hz⟩ : ∃ z : Int, z = -2 := ⟨_, rfl⟩
        rw [ev, ← hz]
        refine dg_go (nx_go ?_)
        refine caught_ok (fun Q R' h => rd Q R' (h _)) ?_
        refine ⟨⟨cmp_fl rfl, cmp_fl rfl⟩, ?_⟩
        have ee : eqD (.int z) (.int (-2)) = true := by rw [hz]; rfl
        show if eqD (.int z) (.int (-2)) = true then _ else _
        rw [ee]
        refine iteT ?_
        refine ⟨ps2, l2, rs2, ys2, _, rfl, p102, few2, rfl, fun z => absurd rfl (z _), fun b' e => ?_⟩
        cases e
        refine ⟨by omega, fun i' hi' => (by rw [hbad] at hi'; cases hi'), fun _ z => absurd z (by omega), fun _ _ => ?_⟩
        refine ⟨ps2, l2, rs2, ys2, codesB b, rfl, W2, D2, by omega, hbad, by omega, ?_⟩
        have L1 := aims_lvl (readA ps2 ys2 (codesB b))
        refine ⟨_, _, rfl, lvl_up L1.1, L1.2, L1.2, ?_⟩
        rw [sameD_refl L1.1 L1.2]
        exact k _ (by omega) (by omega)
  · obtain ⟨ps, l, rs, ps2, l2, rs2, rfl, _⟩ := h
    rfl
abbrev qualO : Str := (envOfC ("_law_odd_right" : Str) (defScope (top 91)) 0 0 (.ref 0)).qual ++ "<lambda>"
def spOddR (C : Addr) : DSp := fun ds n Q _ => ∃ ps l rs ys d, ds = [progD C ps l rs ys, d] ∧ ps.length ≤ 10 ∧ ys.length ≤ 6 ∧ Kd d ∧ (∀ b, d ≠ .byt b) ∧ Q (.bl true) n
theorem sc__law_odd_right : FnScope ["_law_made", "_law_odd_here", "_law_caught_here"] ["_law_made", "_law_odd_here"] (defScope (top 91)) := ⟨rfl, rfl, rfl, by decide +kernel, rfl, by decide +kernel, by decide +kernel⟩
theorem ok_odd_right {G : Bool} (hmT : (Pt, qualO) ∈ TT) (hu : ∀ p ∈ TT, p.1 = Pt → p.2 = qualO) (TB : TabB base mg c Pt) (F : HasC K mg "_law_odd_right" (top 91) c) (T : Blt mg) (Z : ErrB P K mg stI fI AE C_BadAims C_BadBytes) (ZX : ErrBX K AE C_BadAims C_BadBytes) (U : CauT K mg (top 77) AE)
    (D__law_same : Df P w K mg base false 5 "_law_same" (LSp K TT (spSame 3))) (D_read_aims : Df P w K mg base false 4 "read_aims" (LSp K TT (spReadAims C C_BadBytes))) : Df P w K mg base G 16 "_law_odd_right" (LSp K TT (spOddR C)) := by
  refine dat_okC F (fun _ _ _ _ _ _ us hl => by obtain ⟨x0, x1, rfl⟩ := us2 hl; rfl) sc__law_odd_right (fun f A outer s H E hr hG => ⟨_, (dss_cons (ds_set (i := 2) sc__law_odd_right.nd rfl (Or.inl rfl) (de_caught (pe_caught (k := 12) U rfl TB rfl hmT hu (hr.mono (by decide)) (LamX.lamS_by rfl) rfl (fun _ _ _ _ _ => rfl) (fun A outer s H E f c' hr => (de_call D_read_aims hr (by first | decide | omega) (by first | exact hG | (intro z; cases z)) rfl (passes_call (takes_of rfl rfl rfl rfl) (fun _ _ _ _ h => h)) (da_cons (de_var (pv 0)) (da_cons (de_var (pv 1)) da_nil)))))))
      (dss_one (ds_ret (de_and (de_isX (pe_callB call_isiX rfl T.n_isinstance boot_isinstance (pa_cons (de_var (pv 2)) (pa_cons (pe_glob (v := .ref C_BadBytes) rfl Z.m_BadBytes rfl) pa_nil)))) (de_one (de_call D__law_same hr (by first | decide | omega) (by first | exact hG | (intro z; cases z)) rfl passL (da_cons (de_val Z.c_BadBytes (pe_xcv (de_var (pv 2)))) (da_cons (de_neg de_int) da_nil)))))))), fun ds n PP R h => ?_⟩) (fun ds n PP R h => ?_)
  · obtain ⟨ps, l, rs, ys, d, rfl, p10, few, kd, nb, k⟩ := h
    refine ⟨rfl, ?_⟩
    refine caught_exc (C := C_BadBytes) (d := .int (-1)) ZX.x2 (fun Q R' h => ⟨ps, l, rs, ys, d, rfl, p10, few, kd, fun _ => h, fun b e => absurd e (nb b)⟩) ?_
    refine ⟨⟨fI, AE, Z.c_BadBytes⟩, true, ZX.i2, ?_⟩
    exact ⟨rfl, _, _, rfl, .inl rfl, rfl, rfl, k⟩
  · obtain ⟨ps, l, rs, ys, d, rfl, _⟩ := h
    rfl
def oddB : List Dat := [.str "00", .str "", .tup [.int 48, .int 48], .lst [.int 48, .int 48], .tup [], .lst [], .int 0, .bl true, .non, .dct [] []]
def spRightC : DSp := fun ds n Q _ => ds = [.pot] ∧ n < 500000 ∧ ∀ m, n ≤ m → m ≤ n + 6000 → Q (.bl true) m
theorem sc__law_right : FnScope ["_law_pot_here", "_law_is_wide", "_law_world_here", "_law_other", "_law_made", "_law_odd_here"] ["_law_pot_here"] (defScope (top 92)) := ⟨rfl, rfl, rfl, by decide +kernel, rfl, by decide +kernel, by decide +kernel⟩
theorem ok_rightC (F : Has K mg "_law_right" (top 92)) (T : Blt mg) (V_Program : ClsProgram K mg C) (M_Program : DfI P w K mg base TT 10 C (spProgramS C)) (D__law_take : Df P w K mg base false 1 "_law_take" (LSp K TT spTake)) (D__law_of : Df P w K mg base false 2 "_law_of" (LSp K TT spOf)) (D__law_odd : Df P w K mg base false 3 "_law_odd" (LSp K TT spOdd)) (D__law_wide : Df P w K mg base false 6 "_law_wide" (LSp K TT spWide)) (D__law_world : Df P w K mg base false 6 "_law_world" (LSp K TT spWorld))
    (D__law_aims_right : Df P w K mg base true 16 "_law_aims_right" (LSp K TT (spAimsR C))) (D__law_bytes_right : Df P w K mg base true 16 "_law_bytes_right" (LSp K TT (spBytesR C))) (D__law_odd_right : Df P w K mg base false 16 "_law_odd_right" (LSp K TT (spOddR C))) : Df P w K mg base true 18 "_law_right" (LSp K TT spRightC) := by
  refine dat_okX F (fun f fd F => F.binds (fun _ _ _ _ _ _ us hl => by obtain ⟨x0, rfl⟩ := us1 hl; rfl)) sc__law_right (fun f cdv A outer s H E hr hG => ⟨_, (dss_cons (ds_set (i := 1) sc__law_right.nd rfl (Or.inl rfl) (de_cmp (op_eqDD hr.units) od_eq (de_call D__law_take hr (by first | decide | omega) (by first | exact hG | (intro z; cases z)) rfl (passes_call (takes_of rfl rfl rfl rfl) (fun _ _ _ _ h => h)) (da_cons (de_var (pv 0)) (da_cons de_int da_nil))) de_int (nomark _)))
      (dss_cons (ds_set (i := 2) sc__law_right.nd rfl (Or.inl rfl) (de_if (dt_val (de_var (pv 1))) (de_call D__law_wide hr (by first | decide | omega) (by first | exact hG | (intro z; cases z)) rfl (passes_call (takes_of rfl rfl rfl rfl) (fun _ _ _ _ h => h)) (da_cons (de_var (pv 0)) da_nil)) (de_call D__law_world hr (by first | decide | omega) (by first | exact hG | (intro z; cases z)) rfl (passes_call (takes_of rfl rfl rfl rfl) (fun _ _ _ _ h => h)) (da_cons (de_var (pv 0)) (da_cons (de_tup (da_cons de_int (da_cons de_int (da_cons de_int (da_cons de_int (da_cons de_int (da_cons de_int da_nil))))))) da_nil)))))
      (dss_cons (ds_set (i := 3) sc__law_right.nd rfl (Or.inl rfl) (de_call D__law_world hr (by first | decide | omega) (by first | exact hG | (intro z; cases z)) rfl (passes_call (takes_of rfl rfl rfl rfl) (fun _ _ _ _ h => h)) (da_cons (de_var (pv 0)) (da_cons (de_tup (da_cons de_int (da_cons de_int (da_cons de_int (da_cons de_int (da_cons de_int (da_cons de_int da_nil))))))) da_nil))))
      (dss_cons (ds_set (i := 4) sc__law_right.nd rfl (Or.inl rfl) (de_make M_Program hr (by first | decide | omega) rfl V_Program.mg (passes_call (takes_of rfl rfl rfl rfl) (fun _ _ _ _ h => h)) (da_cons (de_ix ix_seq od_ix (de_var (pv 2)) de_int (fun _ _ => rfl)) (da_cons (de_ix ix_seq od_ix (de_var (pv 2)) de_int (fun _ _ => rfl)) (da_cons (de_ix ix_seq od_ix (de_var (pv 2)) de_int (fun _ _ => rfl)) da_nil)))))
      (dss_cons (ds_if (dt_not (dt_val (de_call D__law_aims_right hr (by first | decide | omega) (by first | exact hG | (intro z; cases z)) rfl (passes_call (takes_of rfl rfl rfl rfl) (fun _ _ _ _ h => h)) (da_cons (de_var (pv 0)) (da_cons (de_var (pv 2)) (da_cons (de_var (pv 4)) da_nil)))))) (dss_one (ds_ret de_bl)) dss_nil)
      (dss_cons (ds_if (PW.pt (dw_or (dt_not (dt_val (de_call D__law_bytes_right hr (by first | decide | omega) (by first | exact hG | (intro z; cases z)) rfl (passes_call (takes_of rfl rfl rfl rfl) (fun _ _ _ _ h => h)) (da_cons (de_var (pv 0)) (da_cons (de_var (pv 2)) (da_cons (de_var (pv 3)) da_nil)))))) (dw_or1 (dt_not (dt_val (de_call D__law_bytes_right hr (by first | decide | omega) (by first | exact hG | (intro z; cases z)) rfl (passes_call (takes_of rfl rfl rfl rfl) (fun _ _ _ _ h => h)) (da_cons (de_var (pv 0)) (da_cons (de_var (pv 3)) (da_cons (de_var (pv 2)) da_nil))))))))) (dss_one (ds_ret de_bl)) dss_nil)
      (dss_cons (ds_set (i := 5) sc__law_right.nd rfl (Or.inl rfl) (de_call D__law_of hr (by first | decide | omega) (by first | exact hG | (intro z; cases z)) rfl (passes_call (takes_of rfl rfl rfl rfl) (fun _ _ _ _ h => h)) (da_cons (de_var (pv 0)) (da_cons (de_lst (da_cons de_str (da_cons de_str (da_cons (de_tup (da_cons de_int (da_cons de_int da_nil))) (da_cons (de_lst (da_cons de_int (da_cons de_int da_nil))) (da_cons (de_tup da_nil) (da_cons (de_lst da_nil) (da_cons de_int (da_cons de_bl (da_cons de_non (da_cons (de_dict0) (da_cons (de_call D__law_odd hr (by first | decide | omega) (by first | exact hG | (intro z; cases z)) rfl (passes_call (takes_of rfl rfl rfl rfl) (fun _ _ _ _ h => h)) (da_cons (de_var (pv 0)) da_nil)) da_nil)))))))))))) da_nil))))
      (dss_one (ds_ret (de_call D__law_odd_right hr (by first | decide | omega) (by first | exact hG | (intro z; cases z)) rfl (passes_call (takes_of rfl rfl rfl rfl) (fun _ _ _ _ h => h)) (da_cons (de_var (pv 4)) (da_cons (de_var (pv 5)) da_nil)))))))))))), fun ds n PP R h => ?_⟩) (fun ds n PP R h => ?_)
  · obtain ⟨rfl, hn, k⟩ := h
    refine ⟨rfl, ?_⟩
    refine ⟨_, rfl, by omega, by decide, by decide, fun r r0 r1 => ?_⟩
    refine ⟨⟨cmp_fl rfl, cmp_fl rfl⟩, ?_⟩
    refine both_worlds (by omega) (fun Q' z => z) (fun Q' z => ⟨by show 6 ≤ sizeLine; decide, z⟩) fun ps l rs m1 W a1 b1 => ?_
    refine ⟨by show 6 ≤ sizeLine; decide, 4, 3, 1, 0, 1, 1, rfl, by decide, by decide, by decide, by decide, by decide, by decide, by omega, fun ps2 l2 rs2 m2 W2 a2 b2 _ => ?_⟩
    refine ⟨ps, l, rs, rfl, W, fun ys D => ?_⟩
    have few := D.few W.ll.2
    have pl := W.pl
    refine ⟨ps, l, rs, ys, rfl, W, D, by omega, fun m3 a3 b3 => ?_⟩
    refine iteF (A := True) ?_
    refine ⟨ps, l, rs, ps2, l2, rs2, rfl, W, W2, by omega, fun m4 a4 b4 => ?_⟩
    refine iteF (A := True) ?_
    refine ⟨ps2, l2, rs2, ps, l, rs, rfl, W2, W, by omega, fun m5 a5 b5 => ?_⟩
    refine iteF (A := True) ?_
    refine iteF ?_
    have z2 : (2 : Nat) ≤ sizeLine := by decide
    refine ⟨z2, z2, by decide, by decide, rfl, by omega, fun v hv => ?_⟩
    refine ⟨by show 11 ≤ sizeLine; decide, oddB ++ [v], .inl rfl, by omega, by show 0 < 11; decide, by show 11 ≤ 1000000; decide, fun u hu => ?_⟩
    have hu2 : Kd u ∧ ∀ b, u ≠ .byt b := by
      have small : ∀ x ∈ oddB, Kd x ∧ ∀ b, x ≠ .byt b := fun x hx => by
        unfold oddB at hx
        simp only [List.mem_cons, List.not_mem_nil, or_false] at hx
        rcases hx with rfl | rfl | rfl | rfl | rfl | rfl | rfl | rfl | rfl | rfl <;> exact ⟨rfl, fun b e => by cases e⟩
      have odd : ∀ x ∈ oddL, Kd x ∧ ∀ b, x ≠ .byt b := fun x hx => by
        unfold oddL at hx
        simp only [List.mem_cons, List.not_mem_nil, or_false] at hx
        rcases hx with rfl | rfl | rfl | rfl | rfl | rfl | rfl | rfl | rfl | rfl | rfl | rfl | rfl | rfl | rfl <;> exact ⟨rfl, fun b e => by cases e⟩
      rcases List.mem_append.mp hu with q | q
      · exact small u q
      · rw [List.mem_singleton.mp q]
        exact odd v hv
    exact ⟨ps, l, rs, ys, u, rfl, by omega, few, hu2.1, hu2.2, k _ (by omega) (by omega)⟩
  · obtain ⟨rfl, _⟩ := h
    rfl
theorem sc_law : FnScope ["_law_script", "_law_place", "_law_pot_here", "_law_turn"] ["_law_script"] (defScope (top 93)) := ⟨rfl, rfl, rfl, by decide +kernel, rfl, by decide +kernel, by decide +kernel⟩
theorem ok_lawC (F : Has K mg "law" (top 93)) (T : Blt mg) (D__law_cells : Df P w K mg base false 1 "_law_cells" (LSp K TT spCells)) (D__law_pot : Df P w K mg base false 1 "_law_pot" (LSp K TT spPot)) (D__law_right : Df P w K mg base true 18 "_law_right" (LSp K TT spRightC)) : DfW P w K mg base true 20 "law" (top 93) ["_law_script"] (LSp K TT spLaw) := by
  refine dat_okW F (fun f fd F => F.binds (fun _ _ _ _ _ _ us hl => by obtain ⟨x0, rfl⟩ := us1 hl; rfl)) sc_law (fun f cdv A outer s H E hr hG => ⟨_, (dss_cons (ds_forI (passes_of rfl) rfl (di_list (de_call D__law_cells hr (by first | decide | omega) (by first | exact hG | (intro z; cases z)) rfl (passes_call (takes_of rfl rfl rfl rfl) (fun _ _ _ _ h => h)) (da_cons (de_var (pv 0)) (da_cons de_int da_nil)))) (dg_name (pg_name (i := 1) sc_law.nd rfl (Or.inl rfl) (Or.inl rfl))) (dss_cons (ds_set (i := 2) sc_law.nd rfl (Or.inr rfl) (de_call D__law_pot hr (by first | decide | omega) (by first | exact hG | (intro z; cases z)) rfl (passes_call (takes_of rfl rfl rfl rfl) (fun _ _ _ _ h => h)) (da_cons (de_var (pv 0)) (da_cons (de_var (pv 1)) da_nil))))
      (dss_one (ds_if (dt_not (dt_val (de_cb cd_all (pe_callB (cr_all rfl) rfl T.n_all boot_all (da_cons (de_fr (lf_lcI (own := [("_law_turn", 3)]) rfl sc_law.nd (di_rng1 (pi_range1 rfl T.n_range (da_cons de_int da_nil))) (blkOk_by rfl) (fun _ _ _ _ _ => (dg_name (pg_name (i := 3) sc_law.nd rfl (Or.inl rfl) (Or.inr rfl)))) (fun _ _ _ _ _ => dts_nil) (fun _ _ _ _ _ => (de_call D__law_right hr (by first | decide | omega) (by first | exact hG | (intro z; cases z)) rfl passL (da_cons (de_var (pv 2)) da_nil))))) da_nil))))) (dss_one (ds_ret de_bl)) dss_nil))))
      (dss_one (ds_ret de_bl))), fun ds n PP R h => ?_⟩) (fun ds n PP R h => ?_)
  · obtain ⟨ns, rfl, hl, hb, rfl, k⟩ := h
    refine ⟨rfl, ?_⟩
    refine ⟨ns, 3, rfl, hl, by decide, fun q q1 q2 => ?_⟩
    have q3 : q ≤ 3 := by omega
    refine ⟨fun i ρ' m => ∃ s1 s2 s3 : Sl, ρ' = [.val (.scr ns), s1, s2, s3] ∧ m ≤ 40000 * i, ⟨.no, .no, .no, rfl, by omega⟩, ?_, ?_⟩
    · rintro i a ρ' m hd ⟨s1, s2, s3, rfl, hm⟩
      obtain ⟨e1, _⟩ := List.getElem?_eq_some_iff.mp hd
      rw [numL_len] at e1
      rw [numL_get _ _ _ e1] at hd
      cases hd
      refine ⟨ns, 0 + (i : Int), rfl, by omega, by omega, hb, hl, ?_⟩
      refine ⟨⟨by decide, by decide⟩, ?_⟩
      refine ⟨fun j acc m' => acc = List.replicate j (.bl true) ∧ m ≤ m' ∧ m' ≤ m + 6000 * j, ⟨rfl, by omega, by omega⟩, ?_, ?_⟩
      · rintro j d acc m' hd ⟨rfl, h1, h2⟩
        have hj := (List.getElem?_eq_some_iff.mp hd).1
        rw [numL_len] at hj
        have hj : j < 3 := hj
        refine ⟨rfl, by omega, fun m2 h3 h4 => ⟨?_, by omega, by omega⟩⟩
        rw [List.replicate_succ']
      · rintro acc m' ⟨rfl, h1, h2⟩
        rw [numL_len] at h2 ⊢
        have h2 : m' ≤ m + 18000 := h2
        refine ⟨_, _, _, rfl, by omega⟩
    · rintro ρ' m ⟨s1, s2, s3, rfl, hm⟩
      exact k m
  · obtain ⟨ns, rfl, _⟩ := h
    rfl
end
end
end Aim
namespace Aim
open PySem PySem.W PySem.Calls PyProof.Rows
open HandSHeadRun (endF stepQ denQ tabQ looksF seenQ getT getT_eq left_one endQ_eq seenQ_eq)
theorem map_some {α β : Type} {o : Option α} {f : α → β} {b : β} {s : α} (e : o = some s) (h : o.map f = some b) : f s = b := by
  rw [e] at h
  exact Option.some.inj h
theorem left_hd {p q : Program} {loose : List PySem.Str} {Xt : Shared → Bool} {H : Hook} (ob : SharedT → H.α) {N : Nat} (M : Nat)
    (e : opening p = plainProg p.main.scope.names) (hN : Nat.ble 600 N = true) (f : ∀ s, fenceModules? p s = some s) (le : Nat.ble M N = true) (ho : ∀ s : SharedT, ob s = H.obs s.abs)
    (r1 : ∀ (w : World) (os : OsState), (endF (stepQ (denQ tabQ) p w) M p w os).map (fun s => looksF p (boot_heap w.params) s.abs) = some true)
    (r2 : ∀ (w : World) (os : OsState), (endF (stepQ (denQ tabQ) p w) M p w os).map (fun s => seenQ q loose (importedModules p.main.body) Xt s.abs) = some (openGood q loose))
    (r3 : ∀ (w : World) (os : OsState), (endF (stepQ (denQ tabQ) p w) M p w os).map ob = some (H.val w)) :
    LeftO p q loose Xt H.obs H.val N true :=
  left_one (M := M) e hN f le fun w os => by
    simp only [endQ_eq, seenQ_eq]
    cases hs : endF (stepQ (denQ tabQ) p w) M p w os with
    | none =>
      have z := r1 w os
      rw [hs] at z
      cases z
    | some s =>
      have z1 := map_some hs (r1 w os)
      have z2 := map_some hs (r2 w os)
      have z3 := map_some hs (r3 w os)
      show some (looksF p (boot_heap w.params) s.abs, seenQ q loose (importedModules p.main.body) Xt s.abs, H.obs s.abs) = _
      rw [z1, z2, ← ho s, z3]
theorem nine_eq {α1 α2 α3 α4 α5 α6 α7 α8 α9 : Type} {x : α1 × α2 × α3 × α4 × α5 × α6 × α7 × α8 × α9} {a1 : α1} {a2 : α2} {a3 : α3} {a4 : α4} {a5 : α5} {a6 : α6} {a7 : α7} {a8 : α8} {a9 : α9}
    (h1 : x.1 = a1) (h2 : x.2.1 = a2) (h3 : x.2.2.1 = a3) (h4 : x.2.2.2.1 = a4) (h5 : x.2.2.2.2.1 = a5) (h6 : x.2.2.2.2.2.1 = a6) (h7 : x.2.2.2.2.2.2.1 = a7) (h8 : x.2.2.2.2.2.2.2.1 = a8) (h9 : x.2.2.2.2.2.2.2.2 = a9) : x = (a1, a2, a3, a4, a5, a6, a7, a8, a9) := by
  subst h1 h2 h3 h4 h5 h6 h7 h8 h9
  rfl
theorem ob_km {K : Params → Frag} {as : List Addr} {ek : ∀ P, as = (K P).map (·.1)} {ts : List Addr} (s : SharedT) : (as.map (getT s), ts.map (getT s)) = (kmHook K as ek ts).obs s.abs := by
  have e1 : as.map (getT s) = as.map s.abs.heap.get? := List.map_congr_left fun a _ => getT_eq s a
  have e2 : ts.map (getT s) = ts.map s.abs.heap.get? := List.map_congr_left fun a _ => getT_eq s a
  rw [e1, e2]
  rfl
end Aim
namespace Aim
open PySem PySem.Spec PyProof.Rows L2 RZ
open LamX (TabB Tabs)
theorem strB_all {l : List Str} (h : (l.all fun x => decide (x.length ≤ sizeLine) && x.cps.all (fun c => decide (c < 0x110000))) = true) : ∀ y ∈ l, StrB y := fun y hy => strB_dec (List.all_eq_true.mp h y hy)
theorem fin {l : PySem.W.OpenLaw} {w : World} {K : PySem.W.Frag} {h : Heap} {mg : Str → Option Value} {fa : Addr} {q : Program} (X : K.In h) (G : h.Ns mainGlobals mg) (hfa : mg "law" = some (.ref fa))
    (tabs : ∀ (x : Str) (d : DefRec) (c P : Addr), (recsOf q).find? (fun e => e.name == x) = some d → PySem.W.tabIn K x = some (c, P) → PySem.W.CodeHd h c P ∧ h.get? P = some tab0) (NS : h.NoSeer)
    (q_is_integer : Has K mg "is_integer" (top 4)) (q_is_from : Has K mg "is_from" (top 5)) (q_is_name : Has K mg "is_name" (top 6)) (q_is_tuple : Has K mg "is_tuple" (top 7)) (q_are_names : Has K mg "are_names" (top 8)) (q_ascending : Has K mg "ascending" (top 9)) (q_is_place : Has K mg "is_place" (top 17)) (q_are_rows : Has K mg "are_rows" (top 20)) (q_is_change : Has K mg "is_change" (top 21)) (q_deeds_of : Has K mg "deeds_of" (top 34)) (q_is_aim : Has K mg "is_aim" (top 35)) (q_aim_bytes : Has K mg "aim_bytes" (top 36)) (q_read_aims : Has K mg "read_aims" (top 37)) (q_are_parts : Has K mg "are_parts" (top 54)) (q_are_changes : Has K mg "are_changes" (top 55)) (q_is_update_row : Has K mg "is_update_row" (top 56)) (q_are_updates : Has K mg "are_updates" (top 57)) (q_are_ways : Has K mg "are_ways" (top 58)) (q_is_room : Has K mg "is_room" (top 59)) (q_are_rooms : Has K mg "are_rooms" (top 60)) (q__law_letter : Has K mg "_law_letter" (top 68)) (q__law_word_of_lines : Has K mg "_law_word_of_lines" (top 69)) (q__law_name : Has K mg "_law_name" (top 70)) (q__law_fresh : Has K mg "_law_fresh" (top 71)) (q__law_names : Has K mg "_law_names" (top 72)) (q__law_change : Has K mg "_law_change" (top 73)) (q__law_rows : Has K mg "_law_rows" (top 74)) (q__law_update : Has K mg "_law_update" (top 75)) (q__law_world : Has K mg "_law_world" (top 76)) (q__law_pot : Has K mg "_law_pot" (top 64)) (q__law_take : Has K mg "_law_take" (top 65)) (q__law_of : Has K mg "_law_of" (top 66)) (q__law_cells : Has K mg "_law_cells" (top 67)) (q__law_caught : Has K mg "_law_caught" (top 77)) (q__law_same : Has K mg "_law_same" (top 78)) (q__law_is : Has K mg "_law_is" (top 79)) (q__law_odd : Has K mg "_law_odd" (top 80)) (q__law_bent_row : Has K mg "_law_bent_row" (top 81)) (q__law_bent : Has K mg "_law_bent" (top 82)) (q__law_wide : Has K mg "_law_wide" (top 83)) (q__law_deeds : Has K mg "_law_deeds" (top 84)) (q__law_aims : Has K mg "_law_aims" (top 85)) (q__law_is_aim : Has K mg "_law_is_aim" (top 86)) (q__law_bad : Has K mg "_law_bad" (top 88)) (q__law_told : Has K mg "_law_told" (top 89)) (q__law_right : Has K mg "_law_right" (top 92)) (q_law : Has K mg "law" (top 93)) (q_is_part_changes : HasA K mg "is_part_changes" "is_part" (top 18)) (q_is_part_programs : HasA K mg "is_part_programs" "is_part" (top 52))
    {t_LETTERS : Tok} {t_MOST_LETTERS : Tok} {t_PUT : Tok} {t_TAKE : Tok} {t_SWAP : Tok} {t_PUSH : Tok} {t_PAIR_changes : Tok} {t_TRIPLE : Tok} {t_ACTS_0 t_ACTS_1 : Tok} {n_ACTS : Nat} {s_ACTS : Array (Option Value)} {a_ACTS : Addr} {t_NOTHING : Tok} {t_MOST_PLACES : Tok} {t_MOST_PARTS : Tok} {t_MOST_ROOMS : Tok} {t_MOST_UPDATES : Tok} {t_MOST_CHANGES : Tok} {t_MOST_NAMES : Tok} {t_MOST_TICKS : Tok} {t_WAY : Tok} {t_PART : Tok} {t_UPDATE : Tok} {t_ROOM : Tok} {t_DIGITS : Tok} {t_PAIR_codes : Tok} {t_ZERO : Tok} {fL0 cL0 PL0 : Addr} {ocL0 dcL0 pmL0 ctL0 kVL0 ccL0 : Value} {odL0 anL0 cdL0 : Option Addr} {slL0 csL0 : Array (Option Value)} {vsL0 : Array Value} {dL0 : DefRec} {fL1 cL1 PL1 : Addr} {ocL1 dcL1 pmL1 ctL1 kVL1 ccL1 : Value} {odL1 anL1 cdL1 : Option Addr} {slL1 csL1 : Array (Option Value)} {vsL1 : Array Value} {dL1 : DefRec} {fL2 cL2 PL2 : Addr} {ocL2 dcL2 pmL2 ctL2 kVL2 ccL2 : Value} {odL2 anL2 cdL2 : Option Addr} {slL2 csL2 : Array (Option Value)} {vsL2 : Array Value} {dL2 : DefRec} {AE fI cda cc E_BadPlaces E_BadParts E_BadRooms E_BadAims E_BadBytes : Addr} {ocI kVI docI pmI ctI cclI clI : Value} {odI anI cddI cldI : Option Addr} {oslI ccsI cslI : Array (Option Value)} {vsI : Array Value} {file : Str} {tf : Tok} {cdD : ClassData} {nm_BadPlaces qn_BadPlaces : Str} {N_BadPlaces : Addr} {bs_BadPlaces bm_BadPlaces : List Value} {sn_BadPlaces sub_BadPlaces ab_BadPlaces col_BadPlaces dd_BadPlaces k0_BadPlaces k1_BadPlaces k2_BadPlaces k3_BadPlaces k5_BadPlaces} {nm_BadParts qn_BadParts : Str} {N_BadParts : Addr} {bs_BadParts bm_BadParts : List Value} {sn_BadParts sub_BadParts ab_BadParts col_BadParts dd_BadParts k0_BadParts k1_BadParts k2_BadParts k3_BadParts k5_BadParts} {nm_BadRooms qn_BadRooms : Str} {N_BadRooms : Addr} {bs_BadRooms bm_BadRooms : List Value} {sn_BadRooms sub_BadRooms ab_BadRooms col_BadRooms dd_BadRooms k0_BadRooms k1_BadRooms k2_BadRooms k3_BadRooms k5_BadRooms} {nm_BadAims qn_BadAims : Str} {N_BadAims : Addr} {bs_BadAims bm_BadAims : List Value} {sn_BadAims sub_BadAims ab_BadAims col_BadAims dd_BadAims k0_BadAims k1_BadAims k2_BadAims k3_BadAims k5_BadAims} {nm_BadBytes qn_BadBytes : Str} {N_BadBytes : Addr} {bs_BadBytes bm_BadBytes : List Value} {sn_BadBytes sub_BadBytes ab_BadBytes col_BadBytes dd_BadBytes k0_BadBytes k1_BadBytes k2_BadBytes k3_BadBytes k5_BadBytes} {C_Program fP_Program : Addr} {ocP_Program kVP_Program dcP_Program pmP_Program cdP_Program ctP_Program : Value} {odP_Program anP_Program : Option Addr} {slP_Program : Array (Option Value)} {pp_Program_places gg_Program_places : Addr} {rr_Program_places : List Value} {oc_Program_places kV_Program_places dc_Program_places pm_Program_places cd_Program_places ct_Program_places : Value} {od_Program_places an_Program_places : Option Addr} {sl_Program_places : Array (Option Value)} {pp_Program_parts gg_Program_parts : Addr} {rr_Program_parts : List Value} {oc_Program_parts kV_Program_parts dc_Program_parts pm_Program_parts cd_Program_parts ct_Program_parts : Value} {od_Program_parts an_Program_parts : Option Addr} {sl_Program_parts : Array (Option Value)} {pp_Program_rooms gg_Program_rooms : Addr} {rr_Program_rooms : List Value} {oc_Program_rooms kV_Program_rooms dc_Program_rooms pm_Program_rooms cd_Program_rooms ct_Program_rooms : Value} {od_Program_rooms an_Program_rooms : Option Addr} {sl_Program_rooms : Array (Option Value)} {pp_Program_deeds gg_Program_deeds : Addr} {rr_Program_deeds : List Value} {oc_Program_deeds kV_Program_deeds dc_Program_deeds pm_Program_deeds cd_Program_deeds ct_Program_deeds : Value} {od_Program_deeds an_Program_deeds : Option Addr} {sl_Program_deeds : Array (Option Value)}
    (z_len : PySem.W.nsIn K mainGlobals "len" = some none)
    (z_int : PySem.W.nsIn K mainGlobals "int" = some none)
    (z_abs : PySem.W.nsIn K mainGlobals "abs" = some none)
    (z_isinstance : PySem.W.nsIn K mainGlobals "isinstance" = some none)
    (z_bool : PySem.W.nsIn K mainGlobals "bool" = some none)
    (z_str : PySem.W.nsIn K mainGlobals "str" = some none)
    (z_list : PySem.W.nsIn K mainGlobals "list" = some none)
    (z_tuple : PySem.W.nsIn K mainGlobals "tuple" = some none)
    (z_range : PySem.W.nsIn K mainGlobals "range" = some none)
    (z_max : PySem.W.nsIn K mainGlobals "max" = some none)
    (z_min : PySem.W.nsIn K mainGlobals "min" = some none)
    (z_all : PySem.W.nsIn K mainGlobals "all" = some none)
    (z_any : PySem.W.nsIn K mainGlobals "any" = some none)
    (z_zip : PySem.W.nsIn K mainGlobals "zip" = some none)
    (z_repr : PySem.W.nsIn K mainGlobals "repr" = some none)
    (z_super : PySem.W.nsIn K mainGlobals "super" = some none)
    (z_sorted : PySem.W.nsIn K mainGlobals "sorted" = some none)
    (z_enumerate : PySem.W.nsIn K mainGlobals "enumerate" = some none)
    (z_dict : PySem.W.nsIn K mainGlobals "dict" = some none)
    (z_set : PySem.W.nsIn K mainGlobals "set" = some none)
    (z_bytes : PySem.W.nsIn K mainGlobals "bytes" = some none)
    (z_sum : PySem.W.nsIn K mainGlobals "sum" = some none)
    (g_LETTERS : PySem.W.nsIn K mainGlobals "LETTERS" = some (some (.str "abcdefghijklmnopqrstuvwxyz" t_LETTERS)))
    (g_MOST_LETTERS : PySem.W.nsIn K mainGlobals "MOST_LETTERS" = some (some (.int 8 t_MOST_LETTERS)))
    (g_PUT : PySem.W.nsIn K mainGlobals "PUT" = some (some (.str "put" t_PUT)))
    (g_TAKE : PySem.W.nsIn K mainGlobals "TAKE" = some (some (.str "take" t_TAKE)))
    (g_SWAP : PySem.W.nsIn K mainGlobals "SWAP" = some (some (.str "swap" t_SWAP)))
    (g_PUSH : PySem.W.nsIn K mainGlobals "PUSH" = some (some (.str "push" t_PUSH)))
    (g_PAIR_changes : PySem.W.nsIn K mainGlobals "PAIR_changes" = some (some (.int 2 t_PAIR_changes)))
    (g_TRIPLE : PySem.W.nsIn K mainGlobals "TRIPLE" = some (some (.int 3 t_TRIPLE)))
    (g_ACTS : PySem.W.nsIn K mainGlobals "ACTS" = some (some (.ref a_ACTS)))
    (l_ACTS : K.lookup a_ACTS = some ⟨.type "tuple", none, .seq #[.str "down" t_ACTS_0, .str "up" t_ACTS_1] n_ACTS, s_ACTS⟩)
    (g_NOTHING : PySem.W.nsIn K mainGlobals "NOTHING" = some (some (.str "" t_NOTHING)))
    (g_MOST_PLACES : PySem.W.nsIn K mainGlobals "MOST_PLACES" = some (some (.int 4 t_MOST_PLACES)))
    (g_MOST_PARTS : PySem.W.nsIn K mainGlobals "MOST_PARTS" = some (some (.int 6 t_MOST_PARTS)))
    (g_MOST_ROOMS : PySem.W.nsIn K mainGlobals "MOST_ROOMS" = some (some (.int 4 t_MOST_ROOMS)))
    (g_MOST_UPDATES : PySem.W.nsIn K mainGlobals "MOST_UPDATES" = some (some (.int 3 t_MOST_UPDATES)))
    (g_MOST_CHANGES : PySem.W.nsIn K mainGlobals "MOST_CHANGES" = some (some (.int 3 t_MOST_CHANGES)))
    (g_MOST_NAMES : PySem.W.nsIn K mainGlobals "MOST_NAMES" = some (some (.int 18 t_MOST_NAMES)))
    (g_MOST_TICKS : PySem.W.nsIn K mainGlobals "MOST_TICKS" = some (some (.int 9 t_MOST_TICKS)))
    (g_WAY : PySem.W.nsIn K mainGlobals "WAY" = some (some (.int 2 t_WAY)))
    (g_PART : PySem.W.nsIn K mainGlobals "PART" = some (some (.int 3 t_PART)))
    (g_UPDATE : PySem.W.nsIn K mainGlobals "UPDATE" = some (some (.int 4 t_UPDATE)))
    (g_ROOM : PySem.W.nsIn K mainGlobals "ROOM" = some (some (.int 4 t_ROOM)))
    (g_DIGITS : PySem.W.nsIn K mainGlobals "DIGITS" = some (some (.str "0123456789" t_DIGITS)))
    (g_PAIR_codes : PySem.W.nsIn K mainGlobals "PAIR_codes" = some (some (.int 2 t_PAIR_codes)))
    (g_ZERO : PySem.W.nsIn K mainGlobals "ZERO" = some (some (.int 48 t_ZERO)))
    (rL0 : (recsOf q).find? (fun e => e.name == ("_law_aims_right" : Str)) = some dL0)
    (aL0 : PySem.W.nsIn K mainGlobals "_law_aims_right" = some (some (.ref fL0)))
    (lL0 : K.lookup fL0 = some ⟨ocL0, odL0, .func (PySem.W.fnOf "_law_aims_right" "_law_aims_right" (defArgs (top 87)) (defBody (top 87)) (defScope (top 87)) .none kVL0 dcL0 pmL0 anL0 (.ref cL0) ctL0), slL0⟩)
    (coL0 : PySem.W.codeIn K (.ref cL0) "_law_aims_right" = true)
    (kL0 : PySem.W.keepIn K (.ref fL0) = true)
    (lcL0 : K.lookup cL0 = some ⟨ccL0, cdL0, .fields vsL0, csL0⟩)
    (eL0 : (vsL0[11]? : Option Value) = some (.ref PL0))
    (nL0 : K.lookup PL0 = none)
    (rL1 : (recsOf q).find? (fun e => e.name == ("_law_bytes_right" : Str)) = some dL1)
    (aL1 : PySem.W.nsIn K mainGlobals "_law_bytes_right" = some (some (.ref fL1)))
    (lL1 : K.lookup fL1 = some ⟨ocL1, odL1, .func (PySem.W.fnOf "_law_bytes_right" "_law_bytes_right" (defArgs (top 90)) (defBody (top 90)) (defScope (top 90)) .none kVL1 dcL1 pmL1 anL1 (.ref cL1) ctL1), slL1⟩)
    (coL1 : PySem.W.codeIn K (.ref cL1) "_law_bytes_right" = true)
    (kL1 : PySem.W.keepIn K (.ref fL1) = true)
    (lcL1 : K.lookup cL1 = some ⟨ccL1, cdL1, .fields vsL1, csL1⟩)
    (eL1 : (vsL1[11]? : Option Value) = some (.ref PL1))
    (nL1 : K.lookup PL1 = none)
    (rL2 : (recsOf q).find? (fun e => e.name == ("_law_odd_right" : Str)) = some dL2)
    (aL2 : PySem.W.nsIn K mainGlobals "_law_odd_right" = some (some (.ref fL2)))
    (lL2 : K.lookup fL2 = some ⟨ocL2, odL2, .func (PySem.W.fnOf "_law_odd_right" "_law_odd_right" (defArgs (top 91)) (defBody (top 91)) (defScope (top 91)) .none kVL2 dcL2 pmL2 anL2 (.ref cL2) ctL2), slL2⟩)
    (coL2 : PySem.W.codeIn K (.ref cL2) "_law_odd_right" = true)
    (kL2 : PySem.W.keepIn K (.ref fL2) = true)
    (lcL2 : K.lookup cL2 = some ⟨ccL2, cdL2, .fields vsL2, csL2⟩)
    (eL2 : (vsL2[11]? : Option Value) = some (.ref PL2))
    (nL2 : K.lookup PL2 = none)
    (nd : [PL0, PL1, PL2].Nodup)
    (m_AE : PySem.W.nsIn K mainGlobals "AimError" = some (some (.ref AE)))
    (m_BadPlaces : PySem.W.nsIn K mainGlobals "BadPlaces" = some (some (.ref E_BadPlaces)))
    (m_BadParts : PySem.W.nsIn K mainGlobals "BadParts" = some (some (.ref E_BadParts)))
    (m_BadRooms : PySem.W.nsIn K mainGlobals "BadRooms" = some (some (.ref E_BadRooms)))
    (m_BadAims : PySem.W.nsIn K mainGlobals "BadAims" = some (some (.ref E_BadAims)))
    (m_BadBytes : PySem.W.nsIn K mainGlobals "BadBytes" = some (some (.ref E_BadBytes)))
    (iniCT : PySem.W.findIn K (.ref E_BadPlaces) "__init__" = some (some (.ref fI)))
    (lI : K.lookup fI = some ⟨ocI, odI, .func (PySem.W.fnX "__init__" "AimError.__init__" (defArgs (inClass (top 23) 0)) (defBody (inClass (top 23) 0)) (defScope (inClass (top 23) 0)) [("__class__", cc)] .none kVI docI pmI anI (.ref cda) ctI), oslI⟩)
    (cI : PySem.W.codeIn K (.ref cda) "AimError.__init__" = true)
    (lcI : K.lookup cda = some ⟨cclI, cddI, .fields vsI, ccsI⟩)
    (e1I : vsI[2]? = some (.str file tf))
    (e2I : ((l.prog.main.file : Str) == file) = true)
    (lccI : K.lookup cc = some ⟨clI, cldI, .cell (some (.ref AE)), cslI⟩)
    (hDI : PySem.W.clsIn K AE = some cdD)
    (tII : PySem.W.typeIn K (.ref fI) = some (.type "function"))
    (topI : (l.prog.main.scope.names.lookup ("super" : Str)).isSome = false)
    (thI : PySem.W.nsIn K cStatics "thirdparty.any" = some none)
    (lc_BadPlaces : K.lookup E_BadPlaces = some (excClassObj nm_BadPlaces qn_BadPlaces E_BadPlaces N_BadPlaces bs_BadPlaces bm_BadPlaces true sn_BadPlaces sub_BadPlaces ab_BadPlaces col_BadPlaces dd_BadPlaces k0_BadPlaces k1_BadPlaces k2_BadPlaces k3_BadPlaces k5_BadPlaces "ValueError.__new__"))
    (bm_BadPlaces : PySem.HandSPX.refsVE bm_BadPlaces = true)
    (sa_BadPlaces : PySem.W.findIn K (.ref E_BadPlaces) "__setattr__" = some (some (.builtin "object.__setattr__")))
    (ex_BadPlaces : PySem.W.subIn K (.ref E_BadPlaces) (.type "BaseException") = some true)
    (ty_BadPlaces : PySem.W.typeIn K (.ref E_BadPlaces) = some (.type "type"))
    (kc_BadPlaces : PySem.W.keepIn K (.ref E_BadPlaces) = true)
    (ga_BadPlaces : PySem.W.findIn K (.ref E_BadPlaces) "__getattribute__" = some (some (.builtin "BaseException.__getattribute__")))
    (gg_BadPlaces : PySem.W.findIn K (.ref E_BadPlaces) "__getattr__" = some none)
    (hd_BadPlaces : PySem.W.hasDictIn K E_BadPlaces = true)
    (sb_BadPlaces : PySem.W.mroIn K E_BadPlaces (.ref AE) = some true)
    (su_BadPlaces : PySem.W.ks_superIn K E_BadPlaces AE "__init__" = some (some (.builtin "ValueError.__init__")))
    (ve_BadPlaces : PySem.W.subIn K (.ref E_BadPlaces) (.type "ValueError") = some true)
    (nv_BadPlaces : PySem.W.findIn K (.ref E_BadPlaces) "value" = some none)
    (in_BadPlaces : PySem.W.findIn K (.ref E_BadPlaces) "__init__" = some (some (.ref fI)))
    (ow_BadPlaces : PySem.W.findIn K (.ref E_BadPlaces) "__class__" = some (some (.builtin "object.__class__")))
    (ob_BadPlaces : PySem.W.mroIn K E_BadPlaces (.type "object") = some true)
    (x_BadPlaces : PySem.W.exmOne K (.ref E_BadPlaces) (.ref AE) = some true)
    (i_BadPlaces : PySem.W.kitOne K (.ref E_BadPlaces) (.ref E_BadPlaces) = some true)
    (lc_BadParts : K.lookup E_BadParts = some (excClassObj nm_BadParts qn_BadParts E_BadParts N_BadParts bs_BadParts bm_BadParts true sn_BadParts sub_BadParts ab_BadParts col_BadParts dd_BadParts k0_BadParts k1_BadParts k2_BadParts k3_BadParts k5_BadParts "ValueError.__new__"))
    (bm_BadParts : PySem.HandSPX.refsVE bm_BadParts = true)
    (sa_BadParts : PySem.W.findIn K (.ref E_BadParts) "__setattr__" = some (some (.builtin "object.__setattr__")))
    (ex_BadParts : PySem.W.subIn K (.ref E_BadParts) (.type "BaseException") = some true)
    (ty_BadParts : PySem.W.typeIn K (.ref E_BadParts) = some (.type "type"))
    (kc_BadParts : PySem.W.keepIn K (.ref E_BadParts) = true)
    (ga_BadParts : PySem.W.findIn K (.ref E_BadParts) "__getattribute__" = some (some (.builtin "BaseException.__getattribute__")))
    (gg_BadParts : PySem.W.findIn K (.ref E_BadParts) "__getattr__" = some none)
    (hd_BadParts : PySem.W.hasDictIn K E_BadParts = true)
    (sb_BadParts : PySem.W.mroIn K E_BadParts (.ref AE) = some true)
    (su_BadParts : PySem.W.ks_superIn K E_BadParts AE "__init__" = some (some (.builtin "ValueError.__init__")))
    (ve_BadParts : PySem.W.subIn K (.ref E_BadParts) (.type "ValueError") = some true)
    (nv_BadParts : PySem.W.findIn K (.ref E_BadParts) "value" = some none)
    (in_BadParts : PySem.W.findIn K (.ref E_BadParts) "__init__" = some (some (.ref fI)))
    (ow_BadParts : PySem.W.findIn K (.ref E_BadParts) "__class__" = some (some (.builtin "object.__class__")))
    (ob_BadParts : PySem.W.mroIn K E_BadParts (.type "object") = some true)
    (x_BadParts : PySem.W.exmOne K (.ref E_BadParts) (.ref AE) = some true)
    (i_BadParts : PySem.W.kitOne K (.ref E_BadParts) (.ref E_BadParts) = some true)
    (lc_BadRooms : K.lookup E_BadRooms = some (excClassObj nm_BadRooms qn_BadRooms E_BadRooms N_BadRooms bs_BadRooms bm_BadRooms true sn_BadRooms sub_BadRooms ab_BadRooms col_BadRooms dd_BadRooms k0_BadRooms k1_BadRooms k2_BadRooms k3_BadRooms k5_BadRooms "ValueError.__new__"))
    (bm_BadRooms : PySem.HandSPX.refsVE bm_BadRooms = true)
    (sa_BadRooms : PySem.W.findIn K (.ref E_BadRooms) "__setattr__" = some (some (.builtin "object.__setattr__")))
    (ex_BadRooms : PySem.W.subIn K (.ref E_BadRooms) (.type "BaseException") = some true)
    (ty_BadRooms : PySem.W.typeIn K (.ref E_BadRooms) = some (.type "type"))
    (kc_BadRooms : PySem.W.keepIn K (.ref E_BadRooms) = true)
    (ga_BadRooms : PySem.W.findIn K (.ref E_BadRooms) "__getattribute__" = some (some (.builtin "BaseException.__getattribute__")))
    (gg_BadRooms : PySem.W.findIn K (.ref E_BadRooms) "__getattr__" = some none)
    (hd_BadRooms : PySem.W.hasDictIn K E_BadRooms = true)
    (sb_BadRooms : PySem.W.mroIn K E_BadRooms (.ref AE) = some true)
    (su_BadRooms : PySem.W.ks_superIn K E_BadRooms AE "__init__" = some (some (.builtin "ValueError.__init__")))
    (ve_BadRooms : PySem.W.subIn K (.ref E_BadRooms) (.type "ValueError") = some true)
    (nv_BadRooms : PySem.W.findIn K (.ref E_BadRooms) "value" = some none)
    (in_BadRooms : PySem.W.findIn K (.ref E_BadRooms) "__init__" = some (some (.ref fI)))
    (ow_BadRooms : PySem.W.findIn K (.ref E_BadRooms) "__class__" = some (some (.builtin "object.__class__")))
    (ob_BadRooms : PySem.W.mroIn K E_BadRooms (.type "object") = some true)
    (x_BadRooms : PySem.W.exmOne K (.ref E_BadRooms) (.ref AE) = some true)
    (i_BadRooms : PySem.W.kitOne K (.ref E_BadRooms) (.ref E_BadRooms) = some true)
    (lc_BadAims : K.lookup E_BadAims = some (excClassObj nm_BadAims qn_BadAims E_BadAims N_BadAims bs_BadAims bm_BadAims true sn_BadAims sub_BadAims ab_BadAims col_BadAims dd_BadAims k0_BadAims k1_BadAims k2_BadAims k3_BadAims k5_BadAims "ValueError.__new__"))
    (bm_BadAims : PySem.HandSPX.refsVE bm_BadAims = true)
    (sa_BadAims : PySem.W.findIn K (.ref E_BadAims) "__setattr__" = some (some (.builtin "object.__setattr__")))
    (ex_BadAims : PySem.W.subIn K (.ref E_BadAims) (.type "BaseException") = some true)
    (ty_BadAims : PySem.W.typeIn K (.ref E_BadAims) = some (.type "type"))
    (kc_BadAims : PySem.W.keepIn K (.ref E_BadAims) = true)
    (ga_BadAims : PySem.W.findIn K (.ref E_BadAims) "__getattribute__" = some (some (.builtin "BaseException.__getattribute__")))
    (gg_BadAims : PySem.W.findIn K (.ref E_BadAims) "__getattr__" = some none)
    (hd_BadAims : PySem.W.hasDictIn K E_BadAims = true)
    (sb_BadAims : PySem.W.mroIn K E_BadAims (.ref AE) = some true)
    (su_BadAims : PySem.W.ks_superIn K E_BadAims AE "__init__" = some (some (.builtin "ValueError.__init__")))
    (ve_BadAims : PySem.W.subIn K (.ref E_BadAims) (.type "ValueError") = some true)
    (nv_BadAims : PySem.W.findIn K (.ref E_BadAims) "value" = some none)
    (in_BadAims : PySem.W.findIn K (.ref E_BadAims) "__init__" = some (some (.ref fI)))
    (ow_BadAims : PySem.W.findIn K (.ref E_BadAims) "__class__" = some (some (.builtin "object.__class__")))
    (ob_BadAims : PySem.W.mroIn K E_BadAims (.type "object") = some true)
    (x_BadAims : PySem.W.exmOne K (.ref E_BadAims) (.ref AE) = some true)
    (i_BadAims : PySem.W.kitOne K (.ref E_BadAims) (.ref E_BadAims) = some true)
    (lc_BadBytes : K.lookup E_BadBytes = some (excClassObj nm_BadBytes qn_BadBytes E_BadBytes N_BadBytes bs_BadBytes bm_BadBytes true sn_BadBytes sub_BadBytes ab_BadBytes col_BadBytes dd_BadBytes k0_BadBytes k1_BadBytes k2_BadBytes k3_BadBytes k5_BadBytes "ValueError.__new__"))
    (bm_BadBytes : PySem.HandSPX.refsVE bm_BadBytes = true)
    (sa_BadBytes : PySem.W.findIn K (.ref E_BadBytes) "__setattr__" = some (some (.builtin "object.__setattr__")))
    (ex_BadBytes : PySem.W.subIn K (.ref E_BadBytes) (.type "BaseException") = some true)
    (ty_BadBytes : PySem.W.typeIn K (.ref E_BadBytes) = some (.type "type"))
    (kc_BadBytes : PySem.W.keepIn K (.ref E_BadBytes) = true)
    (ga_BadBytes : PySem.W.findIn K (.ref E_BadBytes) "__getattribute__" = some (some (.builtin "BaseException.__getattribute__")))
    (gg_BadBytes : PySem.W.findIn K (.ref E_BadBytes) "__getattr__" = some none)
    (hd_BadBytes : PySem.W.hasDictIn K E_BadBytes = true)
    (sb_BadBytes : PySem.W.mroIn K E_BadBytes (.ref AE) = some true)
    (su_BadBytes : PySem.W.ks_superIn K E_BadBytes AE "__init__" = some (some (.builtin "ValueError.__init__")))
    (ve_BadBytes : PySem.W.subIn K (.ref E_BadBytes) (.type "ValueError") = some true)
    (nv_BadBytes : PySem.W.findIn K (.ref E_BadBytes) "value" = some none)
    (in_BadBytes : PySem.W.findIn K (.ref E_BadBytes) "__init__" = some (some (.ref fI)))
    (ow_BadBytes : PySem.W.findIn K (.ref E_BadBytes) "__class__" = some (some (.builtin "object.__class__")))
    (ob_BadBytes : PySem.W.mroIn K E_BadBytes (.type "object") = some true)
    (x_BadBytes : PySem.W.exmOne K (.ref E_BadBytes) (.ref AE) = some true)
    (i_BadBytes : PySem.W.kitOne K (.ref E_BadBytes) (.ref E_BadBytes) = some true)
    (gtO : PySem.W.specialIn K (.builtin "object.__class__") "__get__" = some (some (.builtin "getset_descriptor.__get__")))
    (tkO : PySem.W.takesIn K (.builtin "object.__class__") = some true)
    (mC_Program : PySem.W.nsIn K mainGlobals "Program" = some (some (.ref C_Program)))
    (aP_Program : PySem.W.findIn K (.ref C_Program) "__init__" = some (some (.ref fP_Program)))
    (iP_Program : PySem.W.isFn K (.ref fP_Program) = true)
    (lP_Program : K.lookup fP_Program = some ⟨ocP_Program, odP_Program, .func (PySem.W.fnOf "__init__" "Program.__init__" (defArgs (inClass (top 62) 0)) (defBody (inClass (top 62) 0)) (defScope (inClass (top 62) 0)) .none kVP_Program dcP_Program pmP_Program anP_Program cdP_Program ctP_Program), slP_Program⟩)
    (cP_Program : PySem.W.codeIn K cdP_Program "Program.__init__" = true)
    (kP_Program : PySem.W.keepIn K (.ref fP_Program) = true)
    (pg_Program : PySem.W.plainGet K C_Program Str.empty = true)
    (hdP_Program : PySem.W.hasDictIn K C_Program = true)
    (po_Program : PySem.W.plainOver K C_Program = true)
    (saP_Program : PySem.W.findIn K (.ref C_Program) "__setattr__" = some (some (.builtin "object.__setattr__")))
    (mkP_Program : PySem.W.makesIn K C_Program = true)
    (kcP_Program : PySem.W.keepIn K (.ref C_Program) = true)
    (nf_Program_own_places : PySem.W.findIn K (.ref C_Program) "own_places" = some none)
    (nf_Program_own_parts : PySem.W.findIn K (.ref C_Program) "own_parts" = some none)
    (nf_Program_own_rooms : PySem.W.findIn K (.ref C_Program) "own_rooms" = some none)
    (nf_Program_own_deeds : PySem.W.findIn K (.ref C_Program) "own_deeds" = some none)
    (pa_Program_places : PySem.W.findIn K (.ref C_Program) "places" = some (some (.ref pp_Program_places)))
    (pt_Program_places : PySem.W.specialIn K (.ref pp_Program_places) "__get__" = some (some (.builtin "property.__get__")))
    (pk_Program_places : PySem.W.takesIn K (.ref pp_Program_places) = some true)
    (pr_Program_places : PySem.W.recIn K pp_Program_places "property" = some (.ref gg_Program_places :: rr_Program_places))
    (pl_Program_places : K.lookup gg_Program_places = some ⟨oc_Program_places, od_Program_places, .func (PySem.W.fnOf "places" "Program.places" (defArgs (inClass (top 62) 5)) (defBody (inClass (top 62) 5)) (defScope (inClass (top 62) 5)) .none kV_Program_places dc_Program_places pm_Program_places an_Program_places cd_Program_places ct_Program_places), sl_Program_places⟩)
    (pc_Program_places : PySem.W.codeIn K cd_Program_places "Program.places" = true)
    (pq_Program_places : PySem.W.keepIn K (.ref gg_Program_places) = true)
    (pa_Program_parts : PySem.W.findIn K (.ref C_Program) "parts" = some (some (.ref pp_Program_parts)))
    (pt_Program_parts : PySem.W.specialIn K (.ref pp_Program_parts) "__get__" = some (some (.builtin "property.__get__")))
    (pk_Program_parts : PySem.W.takesIn K (.ref pp_Program_parts) = some true)
    (pr_Program_parts : PySem.W.recIn K pp_Program_parts "property" = some (.ref gg_Program_parts :: rr_Program_parts))
    (pl_Program_parts : K.lookup gg_Program_parts = some ⟨oc_Program_parts, od_Program_parts, .func (PySem.W.fnOf "parts" "Program.parts" (defArgs (inClass (top 62) 6)) (defBody (inClass (top 62) 6)) (defScope (inClass (top 62) 6)) .none kV_Program_parts dc_Program_parts pm_Program_parts an_Program_parts cd_Program_parts ct_Program_parts), sl_Program_parts⟩)
    (pc_Program_parts : PySem.W.codeIn K cd_Program_parts "Program.parts" = true)
    (pq_Program_parts : PySem.W.keepIn K (.ref gg_Program_parts) = true)
    (pa_Program_rooms : PySem.W.findIn K (.ref C_Program) "rooms" = some (some (.ref pp_Program_rooms)))
    (pt_Program_rooms : PySem.W.specialIn K (.ref pp_Program_rooms) "__get__" = some (some (.builtin "property.__get__")))
    (pk_Program_rooms : PySem.W.takesIn K (.ref pp_Program_rooms) = some true)
    (pr_Program_rooms : PySem.W.recIn K pp_Program_rooms "property" = some (.ref gg_Program_rooms :: rr_Program_rooms))
    (pl_Program_rooms : K.lookup gg_Program_rooms = some ⟨oc_Program_rooms, od_Program_rooms, .func (PySem.W.fnOf "rooms" "Program.rooms" (defArgs (inClass (top 62) 7)) (defBody (inClass (top 62) 7)) (defScope (inClass (top 62) 7)) .none kV_Program_rooms dc_Program_rooms pm_Program_rooms an_Program_rooms cd_Program_rooms ct_Program_rooms), sl_Program_rooms⟩)
    (pc_Program_rooms : PySem.W.codeIn K cd_Program_rooms "Program.rooms" = true)
    (pq_Program_rooms : PySem.W.keepIn K (.ref gg_Program_rooms) = true)
    (pa_Program_deeds : PySem.W.findIn K (.ref C_Program) "deeds" = some (some (.ref pp_Program_deeds)))
    (pt_Program_deeds : PySem.W.specialIn K (.ref pp_Program_deeds) "__get__" = some (some (.builtin "property.__get__")))
    (pk_Program_deeds : PySem.W.takesIn K (.ref pp_Program_deeds) = some true)
    (pr_Program_deeds : PySem.W.recIn K pp_Program_deeds "property" = some (.ref gg_Program_deeds :: rr_Program_deeds))
    (pl_Program_deeds : K.lookup gg_Program_deeds = some ⟨oc_Program_deeds, od_Program_deeds, .func (PySem.W.fnOf "deeds" "Program.deeds" (defArgs (inClass (top 62) 8)) (defBody (inClass (top 62) 8)) (defScope (inClass (top 62) 8)) .none kV_Program_deeds dc_Program_deeds pm_Program_deeds an_Program_deeds cd_Program_deeds ct_Program_deeds), sl_Program_deeds⟩)
    (pc_Program_deeds : PySem.W.codeIn K cd_Program_deeds "Program.deeds" = true)
    (pq_Program_deeds : PySem.W.keepIn K (.ref gg_Program_deeds) = true) :
    AtLaw l w K 20 63 "_law_script" mg fa h := by
  have T : Blt mg := ⟨PySem.W.mg_none_of X G z_len, PySem.W.mg_none_of X G z_int, PySem.W.mg_none_of X G z_abs, PySem.W.mg_none_of X G z_isinstance, PySem.W.mg_none_of X G z_bool, PySem.W.mg_none_of X G z_str, PySem.W.mg_none_of X G z_list, PySem.W.mg_none_of X G z_tuple, PySem.W.mg_none_of X G z_range, PySem.W.mg_none_of X G z_max, PySem.W.mg_none_of X G z_min, PySem.W.mg_none_of X G z_all, PySem.W.mg_none_of X G z_any, PySem.W.mg_none_of X G z_zip, PySem.W.mg_none_of X G z_repr, PySem.W.mg_none_of X G z_super, PySem.W.mg_none_of X G z_sorted, PySem.W.mg_none_of X G z_enumerate, PySem.W.mg_none_of X G z_dict, PySem.W.mg_none_of X G z_set, PySem.W.mg_none_of X G z_bytes, PySem.W.mg_none_of X G z_sum⟩
  have YF : CstF K mg := ⟨gc_str X G g_LETTERS (strB_dec (by decide +kernel)), gc_int X G g_MOST_LETTERS⟩
  have YC : CstC K mg := ⟨gc_str X G g_PUT (strB_dec (by decide +kernel)), gc_str X G g_TAKE (strB_dec (by decide +kernel)), gc_str X G g_SWAP (strB_dec (by decide +kernel)), gc_str X G g_PUSH (strB_dec (by decide +kernel)), gc_int X G g_PAIR_changes, gc_int X G g_TRIPLE⟩
  have YP : CstP K mg := ⟨gc_strs X G (ys := ["down", "up"]) g_ACTS l_ACTS (.cons ⟨_, rfl⟩ (.cons ⟨_, rfl⟩ .nil)) (by decide) (fun y hy => strB_all (l := ["down", "up"]) (by decide +kernel) y hy), gc_str X G g_NOTHING (strB_dec (by decide +kernel)), gc_int X G g_MOST_PLACES, gc_int X G g_MOST_PARTS, gc_int X G g_MOST_ROOMS, gc_int X G g_MOST_UPDATES, gc_int X G g_MOST_CHANGES, gc_int X G g_MOST_NAMES, gc_int X G g_MOST_TICKS, gc_int X G g_WAY, gc_int X G g_PART, gc_int X G g_UPDATE, gc_int X G g_ROOM⟩
  have YB : CstB K mg := ⟨gc_str X G g_DIGITS (strB_dec (by decide +kernel)), gc_int X G g_PAIR_codes, gc_int X G g_ZERO⟩
  have V_Program : ClsProgram K mg C_Program := ⟨⟨pg_Program, hdP_Program, po_Program, saP_Program⟩, PySem.W.mg_of X G mC_Program, nf_Program_own_places, nf_Program_own_parts, nf_Program_own_rooms, nf_Program_own_deeds, ⟨⟨pp_Program_places, gg_Program_places, _, ⟨pa_Program_places, pt_Program_places, pk_Program_places, _, pr_Program_places⟩, fun_mk pl_Program_places pc_Program_places pq_Program_places, nf_Program_own_places⟩⟩, ⟨⟨pp_Program_parts, gg_Program_parts, _, ⟨pa_Program_parts, pt_Program_parts, pk_Program_parts, _, pr_Program_parts⟩, fun_mk pl_Program_parts pc_Program_parts pq_Program_parts, nf_Program_own_parts⟩⟩, ⟨⟨pp_Program_rooms, gg_Program_rooms, _, ⟨pa_Program_rooms, pt_Program_rooms, pk_Program_rooms, _, pr_Program_rooms⟩, fun_mk pl_Program_rooms pc_Program_rooms pq_Program_rooms, nf_Program_own_rooms⟩⟩, ⟨⟨pp_Program_deeds, gg_Program_deeds, _, ⟨pa_Program_deeds, pt_Program_deeds, pk_Program_deeds, _, pr_Program_deeds⟩, fun_mk pl_Program_deeds pc_Program_deeds pq_Program_deeds, nf_Program_own_deeds⟩⟩⟩
  have MK_Program : MkH K C_Program "Program.__init__" (inClass (top 62) 0) := ⟨fP_Program, _, fun_mk (st := (inClass (top 62) 0)) lP_Program cP_Program kP_Program, ⟨mkP_Program, aP_Program, iP_Program, kcP_Program⟩⟩
  have ZP : ErrP l.prog K mg (inClass (top 23) 0) fI AE E_BadPlaces E_BadParts E_BadRooms := ⟨aimI_mk ⟨⟨_, _, _, _, _, _, _, _, _, _, _, _, rfl, fun env => ⟨_, rfl⟩⟩, rfl, ⟨_, _, _, _, rfl⟩⟩ lI cI lcI e1I e2I lccI hDI tII topI thI, aimC_mk lc_BadPlaces bm_BadPlaces sa_BadPlaces ex_BadPlaces ty_BadPlaces kc_BadPlaces ga_BadPlaces gg_BadPlaces hd_BadPlaces sb_BadPlaces su_BadPlaces ve_BadPlaces nv_BadPlaces in_BadPlaces ow_BadPlaces gtO tkO ob_BadPlaces, PySem.W.mg_of X G m_BadPlaces, aimC_mk lc_BadParts bm_BadParts sa_BadParts ex_BadParts ty_BadParts kc_BadParts ga_BadParts gg_BadParts hd_BadParts sb_BadParts su_BadParts ve_BadParts nv_BadParts in_BadParts ow_BadParts gtO tkO ob_BadParts, PySem.W.mg_of X G m_BadParts, aimC_mk lc_BadRooms bm_BadRooms sa_BadRooms ex_BadRooms ty_BadRooms kc_BadRooms ga_BadRooms gg_BadRooms hd_BadRooms sb_BadRooms su_BadRooms ve_BadRooms nv_BadRooms in_BadRooms ow_BadRooms gtO tkO ob_BadRooms, PySem.W.mg_of X G m_BadRooms⟩
  have ZB : ErrB l.prog K mg (inClass (top 23) 0) fI AE E_BadAims E_BadBytes := ⟨aimI_mk ⟨⟨_, _, _, _, _, _, _, _, _, _, _, _, rfl, fun env => ⟨_, rfl⟩⟩, rfl, ⟨_, _, _, _, rfl⟩⟩ lI cI lcI e1I e2I lccI hDI tII topI thI, aimC_mk lc_BadAims bm_BadAims sa_BadAims ex_BadAims ty_BadAims kc_BadAims ga_BadAims gg_BadAims hd_BadAims sb_BadAims su_BadAims ve_BadAims nv_BadAims in_BadAims ow_BadAims gtO tkO ob_BadAims, PySem.W.mg_of X G m_BadAims, aimC_mk lc_BadBytes bm_BadBytes sa_BadBytes ex_BadBytes ty_BadBytes kc_BadBytes ga_BadBytes gg_BadBytes hd_BadBytes sb_BadBytes su_BadBytes ve_BadBytes nv_BadBytes in_BadBytes ow_BadBytes gtO tkO ob_BadBytes, PySem.W.mg_of X G m_BadBytes⟩
  have U : CauT K mg (top 77) AE := ⟨"error", by first | exact .inl rfl | exact .inr rfl, q__law_caught, ⟨_, _, _, _, _, _, _, _, _, _, _, _, _, _, _, rfl⟩, ⟨rfl, rfl, rfl, by decide +kernel, rfl, by decide +kernel, by decide +kernel⟩, rfl, rfl, rfl, rfl, (fun _ _ _ _ _ _ us hl => by obtain ⟨x0, rfl⟩ := us1 hl; rfl), PySem.W.mg_of X G m_AE⟩
  have B0 := lam_tab tabs rL0 aL0 lL0 lcL0 eL0 nL0
  have B1 := lam_tab tabs rL1 aL1 lL1 lcL1 eL1 nL1
  have B2 := lam_tab tabs rL2 aL2 lL2 lcL2 eL2 nL2
  refine at_lawS (TT := [(PL0, (envOfC ("_law_aims_right" : Str) (defScope (top 87)) 0 0 (.ref 0)).qual ++ "<lambda>"), (PL1, (envOfC ("_law_bytes_right" : Str) (defScope (top 90)) 0 0 (.ref 0)).qual ++ "<lambda>"), (PL2, (envOfC ("_law_odd_right" : Str) (defScope (top 91)) 0 0 (.ref 0)).qual ++ "<lambda>")]) (cs := [(cL0, PL0), (cL1, PL1), (cL2, PL2)]) q_law hfa (fun p hp => ?_) (fun p hp => ?_) (fun _ _ _ _ _ _ _ => rfl) NS (fun base SY TB => ?_)
  · simp only [List.mem_cons, List.not_mem_nil, or_false] at hp
    rcases hp with rfl | rfl | rfl
    · exact ⟨cL0, by simp⟩
    · exact ⟨cL1, by simp⟩
    · exact ⟨cL2, by simp⟩
  · simp only [List.mem_cons, List.not_mem_nil, or_false] at hp
    rcases hp with rfl | rfl | rfl
    · exact B0
    · exact B1
    · exact B2
  · have TTn : ([(PL0, (envOfC ("_law_aims_right" : Str) (defScope (top 87)) 0 0 (.ref 0)).qual ++ "<lambda>"), (PL1, (envOfC ("_law_bytes_right" : Str) (defScope (top 90)) 0 0 (.ref 0)).qual ++ "<lambda>"), (PL2, (envOfC ("_law_odd_right" : Str) (defScope (top 91)) 0 0 (.ref 0)).qual ++ "<lambda>")] : List (Addr × Str)).map Prod.fst = [PL0, PL1, PL2] := rfl
    have M0 : (PL0, (envOfC ("_law_aims_right" : Str) (defScope (top 87)) 0 0 (.ref 0)).qual ++ "<lambda>") ∈ ([(PL0, (envOfC ("_law_aims_right" : Str) (defScope (top 87)) 0 0 (.ref 0)).qual ++ "<lambda>"), (PL1, (envOfC ("_law_bytes_right" : Str) (defScope (top 90)) 0 0 (.ref 0)).qual ++ "<lambda>"), (PL2, (envOfC ("_law_odd_right" : Str) (defScope (top 91)) 0 0 (.ref 0)).qual ++ "<lambda>")] : List (Addr × Str)) := by simp
    have H0 := hu_at (TT := [(PL0, (envOfC ("_law_aims_right" : Str) (defScope (top 87)) 0 0 (.ref 0)).qual ++ "<lambda>"), (PL1, (envOfC ("_law_bytes_right" : Str) (defScope (top 90)) 0 0 (.ref 0)).qual ++ "<lambda>"), (PL2, (envOfC ("_law_odd_right" : Str) (defScope (top 91)) 0 0 (.ref 0)).qual ++ "<lambda>")]) (by rw [TTn]; exact nd) M0
    have TB0 := TB (cL0, PL0) (by simp)
    have F0 := hasC_mk X G (st := (top 87)) aL0 lL0 coL0 kL0
    have M1 : (PL1, (envOfC ("_law_bytes_right" : Str) (defScope (top 90)) 0 0 (.ref 0)).qual ++ "<lambda>") ∈ ([(PL0, (envOfC ("_law_aims_right" : Str) (defScope (top 87)) 0 0 (.ref 0)).qual ++ "<lambda>"), (PL1, (envOfC ("_law_bytes_right" : Str) (defScope (top 90)) 0 0 (.ref 0)).qual ++ "<lambda>"), (PL2, (envOfC ("_law_odd_right" : Str) (defScope (top 91)) 0 0 (.ref 0)).qual ++ "<lambda>")] : List (Addr × Str)) := by simp
    have H1 := hu_at (TT := [(PL0, (envOfC ("_law_aims_right" : Str) (defScope (top 87)) 0 0 (.ref 0)).qual ++ "<lambda>"), (PL1, (envOfC ("_law_bytes_right" : Str) (defScope (top 90)) 0 0 (.ref 0)).qual ++ "<lambda>"), (PL2, (envOfC ("_law_odd_right" : Str) (defScope (top 91)) 0 0 (.ref 0)).qual ++ "<lambda>")]) (by rw [TTn]; exact nd) M1
    have TB1 := TB (cL1, PL1) (by simp)
    have F1 := hasC_mk X G (st := (top 90)) aL1 lL1 coL1 kL1
    have M2 : (PL2, (envOfC ("_law_odd_right" : Str) (defScope (top 91)) 0 0 (.ref 0)).qual ++ "<lambda>") ∈ ([(PL0, (envOfC ("_law_aims_right" : Str) (defScope (top 87)) 0 0 (.ref 0)).qual ++ "<lambda>"), (PL1, (envOfC ("_law_bytes_right" : Str) (defScope (top 90)) 0 0 (.ref 0)).qual ++ "<lambda>"), (PL2, (envOfC ("_law_odd_right" : Str) (defScope (top 91)) 0 0 (.ref 0)).qual ++ "<lambda>")] : List (Addr × Str)) := by simp
    have H2 := hu_at (TT := [(PL0, (envOfC ("_law_aims_right" : Str) (defScope (top 87)) 0 0 (.ref 0)).qual ++ "<lambda>"), (PL1, (envOfC ("_law_bytes_right" : Str) (defScope (top 90)) 0 0 (.ref 0)).qual ++ "<lambda>"), (PL2, (envOfC ("_law_odd_right" : Str) (defScope (top 91)) 0 0 (.ref 0)).qual ++ "<lambda>")]) (by rw [TTn]; exact nd) M2
    have TB2 := TB (cL2, PL2) (by simp)
    have F2 := hasC_mk X G (st := (top 91)) aL2 lL2 coL2 kL2
    have Dint := ok_is_integer (P := l.prog) (w := w) (base := base) (TT := [(PL0, (envOfC ("_law_aims_right" : Str) (defScope (top 87)) 0 0 (.ref 0)).qual ++ "<lambda>"), (PL1, (envOfC ("_law_bytes_right" : Str) (defScope (top 90)) 0 0 (.ref 0)).qual ++ "<lambda>"), (PL2, (envOfC ("_law_odd_right" : Str) (defScope (top 91)) 0 0 (.ref 0)).qual ++ "<lambda>")]) (G := false) q_is_integer T
    have Dfrom := ok_is_from (G := false) q_is_from T Dint
    have Dname := ok_isname (P := l.prog) (w := w) (base := base) (TT := [(PL0, (envOfC ("_law_aims_right" : Str) (defScope (top 87)) 0 0 (.ref 0)).qual ++ "<lambda>"), (PL1, (envOfC ("_law_bytes_right" : Str) (defScope (top 90)) 0 0 (.ref 0)).qual ++ "<lambda>"), (PL2, (envOfC ("_law_odd_right" : Str) (defScope (top 91)) 0 0 (.ref 0)).qual ++ "<lambda>")]) (G := false) q_is_name T YF
    have Dtup := ok_is_tuple (P := l.prog) (w := w) (base := base) (TT := [(PL0, (envOfC ("_law_aims_right" : Str) (defScope (top 87)) 0 0 (.ref 0)).qual ++ "<lambda>"), (PL1, (envOfC ("_law_bytes_right" : Str) (defScope (top 90)) 0 0 (.ref 0)).qual ++ "<lambda>"), (PL2, (envOfC ("_law_odd_right" : Str) (defScope (top 91)) 0 0 (.ref 0)).qual ++ "<lambda>")]) (G := false) q_is_tuple T
    have Dnames := ok_are_names (G := false) q_are_names T Dname
    have Dasc := ok_ascending (P := l.prog) (w := w) (base := base) (TT := [(PL0, (envOfC ("_law_aims_right" : Str) (defScope (top 87)) 0 0 (.ref 0)).qual ++ "<lambda>"), (PL1, (envOfC ("_law_bytes_right" : Str) (defScope (top 90)) 0 0 (.ref 0)).qual ++ "<lambda>"), (PL2, (envOfC ("_law_odd_right" : Str) (defScope (top 91)) 0 0 (.ref 0)).qual ++ "<lambda>")]) (G := false) q_ascending T
    have Dplace := ok_is_place (G := false) q_is_place T Dname
    have Dpart := ok_is_part_changes (G := false) q_is_part_changes T Dname
    have Drows := ok_are_rows (G := false) q_are_rows T YC Dtup Dplace Dpart
    have Dchange := ok_is_change (G := false) q_is_change T YC Dplace Dpart
    have Dprow := ok_is_part_programs (G := false) q_is_part_programs T YP Dtup Dname
    have Dparts := ok_are_parts (G := false) q_are_parts T YP Dprow Dnames
    have Dchanges := ok_are_changes (G := false) q_are_changes T YP Dchange
    have Dupd := ok_is_update_row (G := false) q_is_update_row T YP Dtup Dname Dfrom Dchanges
    have Dupds := ok_are_updates (G := false) q_are_updates T YP Dupd
    have Dways := ok_are_ways (G := false) q_are_ways T YP Dtup Dname Dnames
    have Droom := ok_is_room (G := false) q_is_room T YP Drows Dupds Dways
    have Drooms := ok_are_rooms (G := false) q_are_rooms T YP Dtup Dnames Droom
    have MPs := ok_programS MK_Program V_Program ZP YP T Dnames Dparts Drooms Dasc
    have Ddo := ok_deeds_of (P := l.prog) (w := w) (base := base) (TT := [(PL0, (envOfC ("_law_aims_right" : Str) (defScope (top 87)) 0 0 (.ref 0)).qual ++ "<lambda>"), (PL1, (envOfC ("_law_bytes_right" : Str) (defScope (top 90)) 0 0 (.ref 0)).qual ++ "<lambda>"), (PL2, (envOfC ("_law_odd_right" : Str) (defScope (top 91)) 0 0 (.ref 0)).qual ++ "<lambda>")]) (G := false) q_deeds_of V_Program T
    have Dia := ok_is_aim (G := false) q_is_aim V_Program T YB Dtup Dplace Ddo
    have Wab := ok_aim_bytes (G := false) q_aim_bytes V_Program T YB ZB Dia Ddo
    have Wra := ok_read_aims (G := false) q_read_aims V_Program T YB ZB Ddo
    have Dtake := ok_take (P := l.prog) (w := w) (base := base) (TT := [(PL0, (envOfC ("_law_aims_right" : Str) (defScope (top 87)) 0 0 (.ref 0)).qual ++ "<lambda>"), (PL1, (envOfC ("_law_bytes_right" : Str) (defScope (top 90)) 0 0 (.ref 0)).qual ++ "<lambda>"), (PL2, (envOfC ("_law_odd_right" : Str) (defScope (top 91)) 0 0 (.ref 0)).qual ++ "<lambda>")]) (G := false) q__law_take T
    have Dof := ok_of (G := false) q__law_of T Dtake
    have Dcells := ok_cells (P := l.prog) (w := w) (base := base) (TT := [(PL0, (envOfC ("_law_aims_right" : Str) (defScope (top 87)) 0 0 (.ref 0)).qual ++ "<lambda>"), (PL1, (envOfC ("_law_bytes_right" : Str) (defScope (top 90)) 0 0 (.ref 0)).qual ++ "<lambda>"), (PL2, (envOfC ("_law_odd_right" : Str) (defScope (top 91)) 0 0 (.ref 0)).qual ++ "<lambda>")]) (G := false) q__law_cells T
    have Dpot := ok_pot (P := l.prog) (w := w) (base := base) (TT := [(PL0, (envOfC ("_law_aims_right" : Str) (defScope (top 87)) 0 0 (.ref 0)).qual ++ "<lambda>"), (PL1, (envOfC ("_law_bytes_right" : Str) (defScope (top 90)) 0 0 (.ref 0)).qual ++ "<lambda>"), (PL2, (envOfC ("_law_odd_right" : Str) (defScope (top 91)) 0 0 (.ref 0)).qual ++ "<lambda>")]) (G := false) q__law_pot T
    have Dlet := ok_letter (P := l.prog) (w := w) (base := base) (TT := [(PL0, (envOfC ("_law_aims_right" : Str) (defScope (top 87)) 0 0 (.ref 0)).qual ++ "<lambda>"), (PL1, (envOfC ("_law_bytes_right" : Str) (defScope (top 90)) 0 0 (.ref 0)).qual ++ "<lambda>"), (PL2, (envOfC ("_law_odd_right" : Str) (defScope (top 91)) 0 0 (.ref 0)).qual ++ "<lambda>")]) (G := false) q__law_letter T
    have DletX := ok_letX (P := l.prog) (w := w) (base := base) (TT := [(PL0, (envOfC ("_law_aims_right" : Str) (defScope (top 87)) 0 0 (.ref 0)).qual ++ "<lambda>"), (PL1, (envOfC ("_law_bytes_right" : Str) (defScope (top 90)) 0 0 (.ref 0)).qual ++ "<lambda>"), (PL2, (envOfC ("_law_odd_right" : Str) (defScope (top 91)) 0 0 (.ref 0)).qual ++ "<lambda>")]) (G := false) q__law_letter T
    have Dword := ok_word (G := false) q__law_word_of_lines T Dof
    have Dnm := ok_name (G := false) q__law_name T Dtake Dof Dlet Dword
    have Dfr := ok_fresh (G := false) q__law_fresh T DletX
    have Dnms := ok_namesW (G := false) q__law_names T Dtake Dnm DletX Dfr
    have Dchg := ok_changeW (G := false) q__law_change T Dof
    have Drow := ok_rowsW (G := false) q__law_rows T Dtake Dof
    have Dup := ok_updateW (G := false) q__law_update T Dtake Dof Dchg
    have Dworld := ok_world (G := false) q__law_world T Dtake Dof Dnms Dup Drow
    have Dis := ok_is (P := l.prog) (w := w) (base := base) (TT := [(PL0, (envOfC ("_law_aims_right" : Str) (defScope (top 87)) 0 0 (.ref 0)).qual ++ "<lambda>"), (PL1, (envOfC ("_law_bytes_right" : Str) (defScope (top 90)) 0 0 (.ref 0)).qual ++ "<lambda>"), (PL2, (envOfC ("_law_odd_right" : Str) (defScope (top 91)) 0 0 (.ref 0)).qual ++ "<lambda>")]) (G := false) q__law_is T
    have Dsame := ok_same (G := false) q__law_same T Dis 3
    have Dwide := ok_wide (G := false) q__law_wide T Dnms
    have Dldeeds := ok_law_deeds (P := l.prog) (w := w) (base := base) (TT := [(PL0, (envOfC ("_law_aims_right" : Str) (defScope (top 87)) 0 0 (.ref 0)).qual ++ "<lambda>"), (PL1, (envOfC ("_law_bytes_right" : Str) (defScope (top 90)) 0 0 (.ref 0)).qual ++ "<lambda>"), (PL2, (envOfC ("_law_odd_right" : Str) (defScope (top 91)) 0 0 (.ref 0)).qual ++ "<lambda>")]) (G := false) q__law_deeds T
    have Dlaims := ok_law_aims (G := false) q__law_aims T Dtake Dof Dldeeds
    have Dodd := ok_odd (G := false) q__law_odd T Dof
    have Drowb := ok_bent_rowB (G := false) q__law_bent_row T Dtake Dodd
    have Dbent := ok_bentB (G := false) q__law_bent T Dtake Dis Dodd Dnm Drowb 2
    have Dlia := ok_law_is_aim (G := false) q__law_is_aim T Dldeeds
    have Dbad := ok_bad (G := false) q__law_bad T Dldeeds
    have Dtold := ok_told (G := false) q__law_told T Dldeeds
    have ZX : ErrBX K AE E_BadAims E_BadBytes := ⟨x_BadAims, x_BadBytes, i_BadAims, i_BadBytes⟩
    have Dar := ok_aims_right M0 H0 TB0 SY F0 T ZB ZX U Dbent Dlaims Dlia Dsame Wab.df Wra.df
    have Dbr := ok_bytes_right M1 H1 TB1 F1 T ZB ZX U V_Program MPs Dtake Dlaims Dbad Dtold Dsame Wab.df Wra.df
    have Dor := ok_odd_right (G := false) M2 H2 TB2 F2 T ZB ZX U Dsame Wra.df
    have Dright := ok_rightC q__law_right T V_Program MPs Dtake Dof Dodd Dwide Dworld Dar Dbr Dor
    exact ok_lawC q_law T Dcells Dpot Dright
end Aim
namespace Aim
open PySem PySem.W PyProof.Rows
abbrev hdR : OpenRow := OpenLaw.row PySem.Challenge.rw_aimedpresses_k11_aims_and_bytes_refused
def hdq : Program := view hdR.prog [0, 2, 3, 4, 5, 6, 7, 8, 9, 11, 12, 13, 14, 15, 16, 17, 19, 20, 21, 23, 24, 25, 26, 27, 28, 29, 31, 32, 33, 34, 35, 36, 37, 39, 40, 41, 42, 43, 44, 45, 46, 47, 48, 49, 50, 51, 52, 53, 54, 55, 56, 57, 58, 59, 60, 61, 62, 64, 65, 66, 67, 68, 69, 70, 71, 72, 73, 74, 75, 76, 77, 78, 79, 80, 81, 82, 83, 84, 85, 86, 87, 88, 89, 90, 91, 92, 93]
def hdloose : List PySem.Str := ["is_part_changes", "MOST_NAMES", "is_part_programs", "Part", "Program"]
abbrev hdX : Shared → Bool := fun s => xlAt hdq [] s && recOk (RowW.records (OpenRow.toRowW hdR)) s
noncomputable abbrev hdS (s : SharedT) := HandSHeadRun.seenQ hdq hdloose (importedModules hdR.prog.main.body) hdX s.abs
theorem hd_l (w : World) (os : OsState) : (HandSHeadRun.endF (HandSHeadRun.stepQ (HandSHeadRun.denQ HandSHeadRun.tabQ) hdR.prog w) 4817 hdR.prog w os).map (fun s => HandSHeadRun.looksF hdR.prog (boot_heap w.params) s.abs) = some true := by kernel_rfl
theorem hd_g0 (w : World) (os : OsState) : (HandSHeadRun.endF (HandSHeadRun.stepQ (HandSHeadRun.denQ HandSHeadRun.tabQ) hdR.prog w) 4817 hdR.prog w os).map (fun s => (hdS s).1) = some (expectedOf hdq) := by kernel_rfl
theorem hd_g1 (w : World) (os : OsState) : (HandSHeadRun.endF (HandSHeadRun.stepQ (HandSHeadRun.denQ HandSHeadRun.tabQ) hdR.prog w) 4817 hdR.prog w os).map (fun s => (hdS s).2.2.1) = some (true) := by kernel_rfl
theorem hd_g2 (w : World) (os : OsState) : (HandSHeadRun.endF (HandSHeadRun.stepQ (HandSHeadRun.denQ HandSHeadRun.tabQ) hdR.prog w) 4817 hdR.prog w os).map (fun s => (hdS s).2.2.2.2.2.1) = some (plainGoodE hdq (looseW hdq hdloose)) := by kernel_rfl
theorem hd_g3 (w : World) (os : OsState) : (HandSHeadRun.endF (HandSHeadRun.stepQ (HandSHeadRun.denQ HandSHeadRun.tabQ) hdR.prog w) 4817 hdR.prog w os).map (fun s => ((hdS s).2.2.2.1, (hdS s).2.2.2.2.2.2.2.1)) = some ((true, wideGood hdq)) := by kernel_rfl
theorem hd_g4 (w : World) (os : OsState) : (HandSHeadRun.endF (HandSHeadRun.stepQ (HandSHeadRun.denQ HandSHeadRun.tabQ) hdR.prog w) 4817 hdR.prog w os).map (fun s => ((hdS s).2.1, (hdS s).2.2.2.2.1, (hdS s).2.2.2.2.2.2.1, (hdS s).2.2.2.2.2.2.2.2)) = some ((bltViewBooted, pinGoodD (drecsOf hdq), plainGoodD hdq hdloose, clsGoodW hdq hdloose)) := by kernel_rfl
theorem hd_s (w : World) (os : OsState) : (HandSHeadRun.endF (HandSHeadRun.stepQ (HandSHeadRun.denQ HandSHeadRun.tabQ) hdR.prog w) 4817 hdR.prog w os).map hdS = some (openGood hdq hdloose) := by
  cases hs : HandSHeadRun.endF (HandSHeadRun.stepQ (HandSHeadRun.denQ HandSHeadRun.tabQ) hdR.prog w) 4817 hdR.prog w os with
  | none =>
    have z := hd_l w os
    rw [hs] at z
    cases z
  | some s =>
    have z0 := map_some hs (hd_g0 w os)
    have z1 := map_some hs (hd_g1 w os)
    have z2 := map_some hs (hd_g2 w os)
    have z3 := map_some hs (hd_g3 w os)
    have z3 : (hdS s).2.2.2.1 = true ∧ (hdS s).2.2.2.2.2.2.2.1 = wideGood hdq := by
      simp only [Prod.mk.injEq] at z3
      exact z3
    have z4 := map_some hs (hd_g4 w os)
    have z4 : (hdS s).2.1 = bltViewBooted ∧ (hdS s).2.2.2.2.1 = pinGoodD (drecsOf hdq) ∧ (hdS s).2.2.2.2.2.2.1 = plainGoodD hdq hdloose ∧ (hdS s).2.2.2.2.2.2.2.2 = clsGoodW hdq hdloose := by
      simp only [Prod.mk.injEq] at z4
      exact z4
    exact congrArg some (nine_eq (z0) (z4.1) (z1) (z3.1) (z4.2.1) (z2) (z4.2.2.1) (z3.2) (z4.2.2.2))
end Aim
local macro_rules | `(tactic| o_head $H) => do
  let hw := Lean.mkIdent `hw
  let hc := Lean.mkIdent `hc
  `(tactic| (refine PySem.W.holds_open (q := Aim.hdq) (loose := Aim.hdloose) (Xt := Aim.hdX) (XP := PySem.W.XL Aim.hdq []) (Yf := PySem.W.Hook.obs $H) (Ya := PySem.W.Hook.val $H) (YP := PySem.W.Hook.says $H) (N := 5517) ?hl (PySem.W.Hook.of $H) (PySem.W.Hook.keeps $H) (fun s e => PySem.W.xl_of s (Bool.and_eq_true_iff.mp e).1) PySem.W.XL.keeps (by rfl) (by rfl) (by rfl) (fun s e => PySem.W.recFacts_of (Bool.and_eq_true_iff.mp e).2) (by rfl) (by first | assumption | decide +kernel) (by decide +kernel) ⟨rfl, rfl, rfl, rfl, rfl, by decide +kernel⟩ ?$hw ?$hc
             (case hl => exact Aim.left_hd _ 4817 (by kernel_rfl) (by rfl) (fun s => by kernel_rfl) (by rfl) Aim.ob_km Aim.hd_l Aim.hd_s (fun w os => by kernel_rfl))))
open PySem PySem.W PyProof.Rows in
set_option maxRecDepth 100000 in
set_option maxHeartbeats 0 in
theorem PySem.Challenge.cw_aimedpresses_k11_aims_and_bytes_refused_holds : PySem.Challenge.rw_aimedpresses_k11_aims_and_bytes_refused.Holds := by
  w_on; o_law; k_head; (case hw => w_witness2)
  k_fill
  refine Aim.walk_law (l := PySem.Challenge.rw_aimedpresses_k11_aims_and_bytes_refused) (n := 63) (k := 20) (x := "_law_script") rfl (by decide) rfl ⟨rfl, by decide, by decide⟩ (fun w h Y => by first | exact PySem.W.km_in_of Y | exact PySem.W.kIn_of Y) ?F
  case F =>
    intro w mg fa h Y KX G hmg tabs seer
    have q_is_integer : Aim.Has (L2.KOf KX) mg "is_integer" (Aim.top 4) := by
      refine' Aim.has_mk KX G ?a ?l ?c ?k
      (case a => k_is)
      (case l => k_is)
      (case c => k_is)
      (case k => k_is)
    have q_is_from : Aim.Has (L2.KOf KX) mg "is_from" (Aim.top 5) := by
      refine' Aim.has_mk KX G ?a ?l ?c ?k
      (case a => k_is)
      (case l => k_is)
      (case c => k_is)
      (case k => k_is)
    have q_is_name : Aim.Has (L2.KOf KX) mg "is_name" (Aim.top 6) := by
      refine' Aim.has_mk KX G ?a ?l ?c ?k
      (case a => k_is)
      (case l => k_is)
      (case c => k_is)
      (case k => k_is)
    have q_is_tuple : Aim.Has (L2.KOf KX) mg "is_tuple" (Aim.top 7) := by
      refine' Aim.has_mk KX G ?a ?l ?c ?k
      (case a => k_is)
      (case l => k_is)
      (case c => k_is)
      (case k => k_is)
    have q_are_names : Aim.Has (L2.KOf KX) mg "are_names" (Aim.top 8) := by
      refine' Aim.has_mk KX G ?a ?l ?c ?k
      (case a => k_is)
      (case l => k_is)
      (case c => k_is)
      (case k => k_is)
    have q_ascending : Aim.Has (L2.KOf KX) mg "ascending" (Aim.top 9) := by
      refine' Aim.has_mk KX G ?a ?l ?c ?k
      (case a => k_is)
      (case l => k_is)
      (case c => k_is)
      (case k => k_is)
    have q_is_place : Aim.Has (L2.KOf KX) mg "is_place" (Aim.top 17) := by
      refine' Aim.has_mk KX G ?a ?l ?c ?k
      (case a => k_is)
      (case l => k_is)
      (case c => k_is)
      (case k => k_is)
    have q_are_rows : Aim.Has (L2.KOf KX) mg "are_rows" (Aim.top 20) := by
      refine' Aim.has_mk KX G ?a ?l ?c ?k
      (case a => k_is)
      (case l => k_is)
      (case c => k_is)
      (case k => k_is)
    have q_is_change : Aim.Has (L2.KOf KX) mg "is_change" (Aim.top 21) := by
      refine' Aim.has_mk KX G ?a ?l ?c ?k
      (case a => k_is)
      (case l => k_is)
      (case c => k_is)
      (case k => k_is)
    have q_deeds_of : Aim.Has (L2.KOf KX) mg "deeds_of" (Aim.top 34) := by
      refine' Aim.has_mk KX G ?a ?l ?c ?k
      (case a => k_is)
      (case l => k_is)
      (case c => k_is)
      (case k => k_is)
    have q_is_aim : Aim.Has (L2.KOf KX) mg "is_aim" (Aim.top 35) := by
      refine' Aim.has_mk KX G ?a ?l ?c ?k
      (case a => k_is)
      (case l => k_is)
      (case c => k_is)
      (case k => k_is)
    have q_aim_bytes : Aim.Has (L2.KOf KX) mg "aim_bytes" (Aim.top 36) := by
      refine' Aim.has_mk KX G ?a ?l ?c ?k
      (case a => k_is)
      (case l => k_is)
      (case c => k_is)
      (case k => k_is)
    have q_read_aims : Aim.Has (L2.KOf KX) mg "read_aims" (Aim.top 37) := by
      refine' Aim.has_mk KX G ?a ?l ?c ?k
      (case a => k_is)
      (case l => k_is)
      (case c => k_is)
      (case k => k_is)
    have q_are_parts : Aim.Has (L2.KOf KX) mg "are_parts" (Aim.top 54) := by
      refine' Aim.has_mk KX G ?a ?l ?c ?k
      (case a => k_is)
      (case l => k_is)
      (case c => k_is)
      (case k => k_is)
    have q_are_changes : Aim.Has (L2.KOf KX) mg "are_changes" (Aim.top 55) := by
      refine' Aim.has_mk KX G ?a ?l ?c ?k
      (case a => k_is)
      (case l => k_is)
      (case c => k_is)
      (case k => k_is)
    have q_is_update_row : Aim.Has (L2.KOf KX) mg "is_update_row" (Aim.top 56) := by
      refine' Aim.has_mk KX G ?a ?l ?c ?k
      (case a => k_is)
      (case l => k_is)
      (case c => k_is)
      (case k => k_is)
    have q_are_updates : Aim.Has (L2.KOf KX) mg "are_updates" (Aim.top 57) := by
      refine' Aim.has_mk KX G ?a ?l ?c ?k
      (case a => k_is)
      (case l => k_is)
      (case c => k_is)
      (case k => k_is)
    have q_are_ways : Aim.Has (L2.KOf KX) mg "are_ways" (Aim.top 58) := by
      refine' Aim.has_mk KX G ?a ?l ?c ?k
      (case a => k_is)
      (case l => k_is)
      (case c => k_is)
      (case k => k_is)
    have q_is_room : Aim.Has (L2.KOf KX) mg "is_room" (Aim.top 59) := by
      refine' Aim.has_mk KX G ?a ?l ?c ?k
      (case a => k_is)
      (case l => k_is)
      (case c => k_is)
      (case k => k_is)
    have q_are_rooms : Aim.Has (L2.KOf KX) mg "are_rooms" (Aim.top 60) := by
      refine' Aim.has_mk KX G ?a ?l ?c ?k
      (case a => k_is)
      (case l => k_is)
      (case c => k_is)
      (case k => k_is)
    have q__law_letter : Aim.Has (L2.KOf KX) mg "_law_letter" (Aim.top 68) := by
      refine' Aim.has_mk KX G ?a ?l ?c ?k
      (case a => k_is)
      (case l => k_is)
      (case c => k_is)
      (case k => k_is)
    have q__law_word_of_lines : Aim.Has (L2.KOf KX) mg "_law_word_of_lines" (Aim.top 69) := by
      refine' Aim.has_mk KX G ?a ?l ?c ?k
      (case a => k_is)
      (case l => k_is)
      (case c => k_is)
      (case k => k_is)
    have q__law_name : Aim.Has (L2.KOf KX) mg "_law_name" (Aim.top 70) := by
      refine' Aim.has_mk KX G ?a ?l ?c ?k
      (case a => k_is)
      (case l => k_is)
      (case c => k_is)
      (case k => k_is)
    have q__law_fresh : Aim.Has (L2.KOf KX) mg "_law_fresh" (Aim.top 71) := by
      refine' Aim.has_mk KX G ?a ?l ?c ?k
      (case a => k_is)
      (case l => k_is)
      (case c => k_is)
      (case k => k_is)
    have q__law_names : Aim.Has (L2.KOf KX) mg "_law_names" (Aim.top 72) := by
      refine' Aim.has_mk KX G ?a ?l ?c ?k
      (case a => k_is)
      (case l => k_is)
      (case c => k_is)
      (case k => k_is)
    have q__law_change : Aim.Has (L2.KOf KX) mg "_law_change" (Aim.top 73) := by
      refine' Aim.has_mk KX G ?a ?l ?c ?k
      (case a => k_is)
      (case l => k_is)
      (case c => k_is)
      (case k => k_is)
    have q__law_rows : Aim.Has (L2.KOf KX) mg "_law_rows" (Aim.top 74) := by
      refine' Aim.has_mk KX G ?a ?l ?c ?k
      (case a => k_is)
      (case l => k_is)
      (case c => k_is)
      (case k => k_is)
    have q__law_update : Aim.Has (L2.KOf KX) mg "_law_update" (Aim.top 75) := by
      refine' Aim.has_mk KX G ?a ?l ?c ?k
      (case a => k_is)
      (case l => k_is)
      (case c => k_is)
      (case k => k_is)
    have q__law_world : Aim.Has (L2.KOf KX) mg "_law_world" (Aim.top 76) := by
      refine' Aim.has_mk KX G ?a ?l ?c ?k
      (case a => k_is)
      (case l => k_is)
      (case c => k_is)
      (case k => k_is)
    have q__law_pot : Aim.Has (L2.KOf KX) mg "_law_pot" (Aim.top 64) := by
      refine' Aim.has_mk KX G ?a ?l ?c ?k
      (case a => k_is)
      (case l => k_is)
      (case c => k_is)
      (case k => k_is)
    have q__law_take : Aim.Has (L2.KOf KX) mg "_law_take" (Aim.top 65) := by
      refine' Aim.has_mk KX G ?a ?l ?c ?k
      (case a => k_is)
      (case l => k_is)
      (case c => k_is)
      (case k => k_is)
    have q__law_of : Aim.Has (L2.KOf KX) mg "_law_of" (Aim.top 66) := by
      refine' Aim.has_mk KX G ?a ?l ?c ?k
      (case a => k_is)
      (case l => k_is)
      (case c => k_is)
      (case k => k_is)
    have q__law_cells : Aim.Has (L2.KOf KX) mg "_law_cells" (Aim.top 67) := by
      refine' Aim.has_mk KX G ?a ?l ?c ?k
      (case a => k_is)
      (case l => k_is)
      (case c => k_is)
      (case k => k_is)
    have q__law_caught : Aim.Has (L2.KOf KX) mg "_law_caught" (Aim.top 77) := by
      refine' Aim.has_mk KX G ?a ?l ?c ?k
      (case a => k_is)
      (case l => k_is)
      (case c => k_is)
      (case k => k_is)
    have q__law_same : Aim.Has (L2.KOf KX) mg "_law_same" (Aim.top 78) := by
      refine' Aim.has_mk KX G ?a ?l ?c ?k
      (case a => k_is)
      (case l => k_is)
      (case c => k_is)
      (case k => k_is)
    have q__law_is : Aim.Has (L2.KOf KX) mg "_law_is" (Aim.top 79) := by
      refine' Aim.has_mk KX G ?a ?l ?c ?k
      (case a => k_is)
      (case l => k_is)
      (case c => k_is)
      (case k => k_is)
    have q__law_odd : Aim.Has (L2.KOf KX) mg "_law_odd" (Aim.top 80) := by
      refine' Aim.has_mk KX G ?a ?l ?c ?k
      (case a => k_is)
      (case l => k_is)
      (case c => k_is)
      (case k => k_is)
    have q__law_bent_row : Aim.Has (L2.KOf KX) mg "_law_bent_row" (Aim.top 81) := by
      refine' Aim.has_mk KX G ?a ?l ?c ?k
      (case a => k_is)
      (case l => k_is)
      (case c => k_is)
      (case k => k_is)
    have q__law_bent : Aim.Has (L2.KOf KX) mg "_law_bent" (Aim.top 82) := by
      refine' Aim.has_mk KX G ?a ?l ?c ?k
      (case a => k_is)
      (case l => k_is)
      (case c => k_is)
      (case k => k_is)
    have q__law_wide : Aim.Has (L2.KOf KX) mg "_law_wide" (Aim.top 83) := by
      refine' Aim.has_mk KX G ?a ?l ?c ?k
      (case a => k_is)
      (case l => k_is)
      (case c => k_is)
      (case k => k_is)
    have q__law_deeds : Aim.Has (L2.KOf KX) mg "_law_deeds" (Aim.top 84) := by
      refine' Aim.has_mk KX G ?a ?l ?c ?k
      (case a => k_is)
      (case l => k_is)
      (case c => k_is)
      (case k => k_is)
    have q__law_aims : Aim.Has (L2.KOf KX) mg "_law_aims" (Aim.top 85) := by
      refine' Aim.has_mk KX G ?a ?l ?c ?k
      (case a => k_is)
      (case l => k_is)
      (case c => k_is)
      (case k => k_is)
    have q__law_is_aim : Aim.Has (L2.KOf KX) mg "_law_is_aim" (Aim.top 86) := by
      refine' Aim.has_mk KX G ?a ?l ?c ?k
      (case a => k_is)
      (case l => k_is)
      (case c => k_is)
      (case k => k_is)
    have q__law_bad : Aim.Has (L2.KOf KX) mg "_law_bad" (Aim.top 88) := by
      refine' Aim.has_mk KX G ?a ?l ?c ?k
      (case a => k_is)
      (case l => k_is)
      (case c => k_is)
      (case k => k_is)
    have q__law_told : Aim.Has (L2.KOf KX) mg "_law_told" (Aim.top 89) := by
      refine' Aim.has_mk KX G ?a ?l ?c ?k
      (case a => k_is)
      (case l => k_is)
      (case c => k_is)
      (case k => k_is)
    have q__law_right : Aim.Has (L2.KOf KX) mg "_law_right" (Aim.top 92) := by
      refine' Aim.has_mk KX G ?a ?l ?c ?k
      (case a => k_is)
      (case l => k_is)
      (case c => k_is)
      (case k => k_is)
    have q_law : Aim.Has (L2.KOf KX) mg "law" (Aim.top 93) := by
      refine' Aim.has_mk KX G ?a ?l ?c ?k
      (case a => k_is)
      (case l => k_is)
      (case c => k_is)
      (case k => k_is)
    have q_is_part_changes : Aim.HasA (L2.KOf KX) mg "is_part_changes" "is_part" (Aim.top 18) := by
      refine' Aim.hasA_mk KX G ?a ?l ?c ?k
      (case a => k_is)
      (case l => k_is)
      (case c => k_is)
      (case k => k_is)
    have q_is_part_programs : Aim.HasA (L2.KOf KX) mg "is_part_programs" "is_part" (Aim.top 52) := by
      refine' Aim.hasA_mk KX G ?a ?l ?c ?k
      (case a => k_is)
      (case l => k_is)
      (case c => k_is)
      (case k => k_is)
    refine' Aim.fin KX G hmg tabs (seer (by decide +kernel)) q_is_integer q_is_from q_is_name q_is_tuple q_are_names q_ascending q_is_place q_are_rows q_is_change q_deeds_of q_is_aim q_aim_bytes q_read_aims q_are_parts q_are_changes q_is_update_row q_are_updates q_are_ways q_is_room q_are_rooms q__law_letter q__law_word_of_lines q__law_name q__law_fresh q__law_names q__law_change q__law_rows q__law_update q__law_world q__law_pot q__law_take q__law_of q__law_cells q__law_caught q__law_same q__law_is q__law_odd q__law_bent_row q__law_bent q__law_wide q__law_deeds q__law_aims q__law_is_aim q__law_bad q__law_told q__law_right q_law q_is_part_changes q_is_part_programs ?z_len ?z_int ?z_abs ?z_isinstance ?z_bool ?z_str ?z_list ?z_tuple ?z_range ?z_max ?z_min ?z_all ?z_any ?z_zip ?z_repr ?z_super ?z_sorted ?z_enumerate ?z_dict ?z_set ?z_bytes ?z_sum ?g_LETTERS ?g_MOST_LETTERS ?g_PUT ?g_TAKE ?g_SWAP ?g_PUSH ?g_PAIR_changes ?g_TRIPLE ?g_ACTS ?l_ACTS ?g_NOTHING ?g_MOST_PLACES ?g_MOST_PARTS ?g_MOST_ROOMS ?g_MOST_UPDATES ?g_MOST_CHANGES ?g_MOST_NAMES ?g_MOST_TICKS ?g_WAY ?g_PART ?g_UPDATE ?g_ROOM ?g_DIGITS ?g_PAIR_codes ?g_ZERO ?rL0 ?aL0 ?lL0 ?coL0 ?kL0 ?lcL0 ?eL0 ?nL0 ?rL1 ?aL1 ?lL1 ?coL1 ?kL1 ?lcL1 ?eL1 ?nL1 ?rL2 ?aL2 ?lL2 ?coL2 ?kL2 ?lcL2 ?eL2 ?nL2 ?nd ?m_AE ?m_BadPlaces ?m_BadParts ?m_BadRooms ?m_BadAims ?m_BadBytes ?iniCT ?lI ?cI ?lcI ?e1I ?e2I ?lccI ?hDI ?tII ?topI ?thI ?lc_BadPlaces ?bm_BadPlaces ?sa_BadPlaces ?ex_BadPlaces ?ty_BadPlaces ?kc_BadPlaces ?ga_BadPlaces ?gg_BadPlaces ?hd_BadPlaces ?sb_BadPlaces ?su_BadPlaces ?ve_BadPlaces ?nv_BadPlaces ?in_BadPlaces ?ow_BadPlaces ?ob_BadPlaces ?x_BadPlaces ?i_BadPlaces ?lc_BadParts ?bm_BadParts ?sa_BadParts ?ex_BadParts ?ty_BadParts ?kc_BadParts ?ga_BadParts ?gg_BadParts ?hd_BadParts ?sb_BadParts ?su_BadParts ?ve_BadParts ?nv_BadParts ?in_BadParts ?ow_BadParts ?ob_BadParts ?x_BadParts ?i_BadParts ?lc_BadRooms ?bm_BadRooms ?sa_BadRooms ?ex_BadRooms ?ty_BadRooms ?kc_BadRooms ?ga_BadRooms ?gg_BadRooms ?hd_BadRooms ?sb_BadRooms ?su_BadRooms ?ve_BadRooms ?nv_BadRooms ?in_BadRooms ?ow_BadRooms ?ob_BadRooms ?x_BadRooms ?i_BadRooms ?lc_BadAims ?bm_BadAims ?sa_BadAims ?ex_BadAims ?ty_BadAims ?kc_BadAims ?ga_BadAims ?gg_BadAims ?hd_BadAims ?sb_BadAims ?su_BadAims ?ve_BadAims ?nv_BadAims ?in_BadAims ?ow_BadAims ?ob_BadAims ?x_BadAims ?i_BadAims ?lc_BadBytes ?bm_BadBytes ?sa_BadBytes ?ex_BadBytes ?ty_BadBytes ?kc_BadBytes ?ga_BadBytes ?gg_BadBytes ?hd_BadBytes ?sb_BadBytes ?su_BadBytes ?ve_BadBytes ?nv_BadBytes ?in_BadBytes ?ow_BadBytes ?ob_BadBytes ?x_BadBytes ?i_BadBytes ?gtO ?tkO ?mC_Program ?aP_Program ?iP_Program ?lP_Program ?cP_Program ?kP_Program ?pg_Program ?hdP_Program ?po_Program ?saP_Program ?mkP_Program ?kcP_Program ?nf_Program_own_places ?nf_Program_own_parts ?nf_Program_own_rooms ?nf_Program_own_deeds ?pa_Program_places ?pt_Program_places ?pk_Program_places ?pr_Program_places ?pl_Program_places ?pc_Program_places ?pq_Program_places ?pa_Program_parts ?pt_Program_parts ?pk_Program_parts ?pr_Program_parts ?pl_Program_parts ?pc_Program_parts ?pq_Program_parts ?pa_Program_rooms ?pt_Program_rooms ?pk_Program_rooms ?pr_Program_rooms ?pl_Program_rooms ?pc_Program_rooms ?pq_Program_rooms ?pa_Program_deeds ?pt_Program_deeds ?pk_Program_deeds ?pr_Program_deeds ?pl_Program_deeds ?pc_Program_deeds ?pq_Program_deeds
    (case z_len => k_is)
    (case z_int => k_is)
    (case z_abs => k_is)
    (case z_isinstance => k_is)
    (case z_bool => k_is)
    (case z_str => k_is)
    (case z_list => k_is)
    (case z_tuple => k_is)
    (case z_range => k_is)
    (case z_max => k_is)
    (case z_min => k_is)
    (case z_all => k_is)
    (case z_any => k_is)
    (case z_zip => k_is)
    (case z_repr => k_is)
    (case z_super => k_is)
    (case z_sorted => k_is)
    (case z_enumerate => k_is)
    (case z_dict => k_is)
    (case z_set => k_is)
    (case z_bytes => k_is)
    (case z_sum => k_is)
    (case g_LETTERS => k_is)
    (case g_MOST_LETTERS => k_is)
    (case g_PUT => k_is)
    (case g_TAKE => k_is)
    (case g_SWAP => k_is)
    (case g_PUSH => k_is)
    (case g_PAIR_changes => k_is)
    (case g_TRIPLE => k_is)
    (case g_ACTS => k_is)
    (case l_ACTS => k_is)
    (case g_NOTHING => k_is)
    (case g_MOST_PLACES => k_is)
    (case g_MOST_PARTS => k_is)
    (case g_MOST_ROOMS => k_is)
    (case g_MOST_UPDATES => k_is)
    (case g_MOST_CHANGES => k_is)
    (case g_MOST_NAMES => k_is)
    (case g_MOST_TICKS => k_is)
    (case g_WAY => k_is)
    (case g_PART => k_is)
    (case g_UPDATE => k_is)
    (case g_ROOM => k_is)
    (case g_DIGITS => k_is)
    (case g_PAIR_codes => k_is)
    (case g_ZERO => k_is)
    (case rL0 => rfl)
    (case aL0 => k_is)
    (case lL0 => k_is)
    (case coL0 => k_is)
    (case kL0 => k_is)
    (case lcL0 => k_is)
    (case eL0 => rfl)
    (case nL0 => kernel_rfl)
    (case rL1 => rfl)
    (case aL1 => k_is)
    (case lL1 => k_is)
    (case coL1 => k_is)
    (case kL1 => k_is)
    (case lcL1 => k_is)
    (case eL1 => rfl)
    (case nL1 => kernel_rfl)
    (case rL2 => rfl)
    (case aL2 => k_is)
    (case lL2 => k_is)
    (case coL2 => k_is)
    (case kL2 => k_is)
    (case lcL2 => k_is)
    (case eL2 => rfl)
    (case nL2 => kernel_rfl)
    (case nd => decide)
    (case m_AE => k_is)
    (case m_BadPlaces => k_is)
    (case m_BadParts => k_is)
    (case m_BadRooms => k_is)
    (case m_BadAims => k_is)
    (case m_BadBytes => k_is)
    (case iniCT => k_is)
    (case lI => k_is)
    (case cI => k_is)
    (case lcI => k_is)
    (case e1I => rfl)
    (case e2I => kernel_rfl)
    (case lccI => k_is)
    (case hDI => k_is)
    (case tII => k_is)
    (case topI => kernel_rfl)
    (case thI => k_is)
    (case lc_BadPlaces => k_is)
    (case bm_BadPlaces => kernel_rfl)
    (case sa_BadPlaces => k_is)
    (case ex_BadPlaces => k_is)
    (case ty_BadPlaces => k_is)
    (case kc_BadPlaces => k_is)
    (case ga_BadPlaces => k_is)
    (case gg_BadPlaces => k_is)
    (case hd_BadPlaces => k_is)
    (case sb_BadPlaces => k_is)
    (case su_BadPlaces => kernel_rfl)
    (case ve_BadPlaces => k_is)
    (case nv_BadPlaces => k_is)
    (case in_BadPlaces => k_is)
    (case ow_BadPlaces => k_is)
    (case ob_BadPlaces => k_is)
    (case x_BadPlaces => kernel_rfl)
    (case i_BadPlaces => kernel_rfl)
    (case lc_BadParts => k_is)
    (case bm_BadParts => kernel_rfl)
    (case sa_BadParts => k_is)
    (case ex_BadParts => k_is)
    (case ty_BadParts => k_is)
    (case kc_BadParts => k_is)
    (case ga_BadParts => k_is)
    (case gg_BadParts => k_is)
    (case hd_BadParts => k_is)
    (case sb_BadParts => k_is)
    (case su_BadParts => kernel_rfl)
    (case ve_BadParts => k_is)
    (case nv_BadParts => k_is)
    (case in_BadParts => k_is)
    (case ow_BadParts => k_is)
    (case ob_BadParts => k_is)
    (case x_BadParts => kernel_rfl)
    (case i_BadParts => kernel_rfl)
    (case lc_BadRooms => k_is)
    (case bm_BadRooms => kernel_rfl)
    (case sa_BadRooms => k_is)
    (case ex_BadRooms => k_is)
    (case ty_BadRooms => k_is)
    (case kc_BadRooms => k_is)
    (case ga_BadRooms => k_is)
    (case gg_BadRooms => k_is)
    (case hd_BadRooms => k_is)
    (case sb_BadRooms => k_is)
    (case su_BadRooms => kernel_rfl)
    (case ve_BadRooms => k_is)
    (case nv_BadRooms => k_is)
    (case in_BadRooms => k_is)
    (case ow_BadRooms => k_is)
    (case ob_BadRooms => k_is)
    (case x_BadRooms => kernel_rfl)
    (case i_BadRooms => kernel_rfl)
    (case lc_BadAims => k_is)
    (case bm_BadAims => kernel_rfl)
    (case sa_BadAims => k_is)
    (case ex_BadAims => k_is)
    (case ty_BadAims => k_is)
    (case kc_BadAims => k_is)
    (case ga_BadAims => k_is)
    (case gg_BadAims => k_is)
    (case hd_BadAims => k_is)
    (case sb_BadAims => k_is)
    (case su_BadAims => kernel_rfl)
    (case ve_BadAims => k_is)
    (case nv_BadAims => k_is)
    (case in_BadAims => k_is)
    (case ow_BadAims => k_is)
    (case ob_BadAims => k_is)
    (case x_BadAims => kernel_rfl)
    (case i_BadAims => kernel_rfl)
    (case lc_BadBytes => k_is)
    (case bm_BadBytes => kernel_rfl)
    (case sa_BadBytes => k_is)
    (case ex_BadBytes => k_is)
    (case ty_BadBytes => k_is)
    (case kc_BadBytes => k_is)
    (case ga_BadBytes => k_is)
    (case gg_BadBytes => k_is)
    (case hd_BadBytes => k_is)
    (case sb_BadBytes => k_is)
    (case su_BadBytes => kernel_rfl)
    (case ve_BadBytes => k_is)
    (case nv_BadBytes => k_is)
    (case in_BadBytes => k_is)
    (case ow_BadBytes => k_is)
    (case ob_BadBytes => k_is)
    (case x_BadBytes => kernel_rfl)
    (case i_BadBytes => kernel_rfl)
    (case gtO => k_is)
    (case tkO => k_is)
    (case mC_Program => k_is)
    (case aP_Program => k_is)
    (case iP_Program => k_is)
    (case lP_Program => k_is)
    (case cP_Program => k_is)
    (case kP_Program => k_is)
    (case pg_Program => k_is)
    (case hdP_Program => k_is)
    (case po_Program => k_is)
    (case saP_Program => k_is)
    (case mkP_Program => k_is)
    (case kcP_Program => k_is)
    (case nf_Program_own_places => k_is)
    (case nf_Program_own_parts => k_is)
    (case nf_Program_own_rooms => k_is)
    (case nf_Program_own_deeds => k_is)
    (case pa_Program_places => k_is)
    (case pt_Program_places => k_is)
    (case pk_Program_places => k_is)
    (case pr_Program_places => k_is)
    (case pl_Program_places => k_is)
    (case pc_Program_places => k_is)
    (case pq_Program_places => k_is)
    (case pa_Program_parts => k_is)
    (case pt_Program_parts => k_is)
    (case pk_Program_parts => k_is)
    (case pr_Program_parts => k_is)
    (case pl_Program_parts => k_is)
    (case pc_Program_parts => k_is)
    (case pq_Program_parts => k_is)
    (case pa_Program_rooms => k_is)
    (case pt_Program_rooms => k_is)
    (case pk_Program_rooms => k_is)
    (case pr_Program_rooms => k_is)
    (case pl_Program_rooms => k_is)
    (case pc_Program_rooms => k_is)
    (case pq_Program_rooms => k_is)
    (case pa_Program_deeds => k_is)
    (case pt_Program_deeds => k_is)
    (case pk_Program_deeds => k_is)
    (case pr_Program_deeds => k_is)
    (case pl_Program_deeds => k_is)
    (case pc_Program_deeds => k_is)
    (case pq_Program_deeds => k_is)
