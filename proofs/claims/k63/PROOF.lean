import PyProof.Rows.All
import HandS.ForMost
import HandS.ForExc
import HandS.Wide
import HandS.Zip
import HandS.Rev
import HandS.RevRange
import HandS.IsInst
import HandS.Flow
import HandS.HotCalls
import HandS.ExcIs
import HandS.StrMore
import HandS.TupAny
import HandS.Gcd
import HandS.Defaults
import HandS.SetFor
import HandS.Replace
import HandS.HeadHook1
import HandS.HeadHook2
import HandS.HeadHook3
import HandS.HeadHook4
import KE.KStateDown
import HandS.Head0
import HandS.Head1
import HandS.Head2
import HandS.HeadEnd
import HandS.EndBits
import KE.IntTextLaws
import PySem.Challenge.RW_restward_k63_numbers_written
set_option Elab.async false
set_option linter.all false
set_option maxRecDepth 100000
set_option maxHeartbeats 2000000
/-! VL: a value layer over HandS: readings over plain data (PyData), the heap kept beneath. -/
namespace VL
open PySem PySem.Spec PyProof.Rows L2

abbrev D := PyData
/-- what a slot holds: nothing known; plain data that stands; data whose lists (to depth n) are one's own; the urn; just this value; the script -/
inductive Sl where
  | no | val (d : D) | own (n : Nat) (d : D) | urn | raw (v : V) | scr (ns : List Int)
abbrev Sts := List Sl
abbrev EX := Value → Prop

def Ext (B H : Hp) : Prop := ∀ a o, B a = some o → H a = some o
theorem Ext.refl (B : Hp) : Ext B B := fun _ _ h => h
theorem Ext.trans {A B C : Hp} (h : Ext A B) (k : Ext B C) : Ext A C := fun a o e => k a o (h a o e)

/-- the urn: three small numbers in a list -/
def UrnC (H : Hp) (u : Addr) : Prop := ∃ g m q : Int, H u = some (.lst [.int g, .int m, .int q]) ∧ 0 ≤ g ∧ 0 ≤ m ∧ m < 2147483648 ∧ 0 < q ∧ q < 2147483648

theorem sqL_ext {K : PySem.W.Frag} {B H : Hp} (h : Ext B H) {a : Addr} {xs : List V} (s : SqL K B a xs) : SqL K H a xs := by
  rcases s with s | s
  · rcases s with s | ⟨o, s⟩
    · exact .inl (.inl (h _ _ s))
    · exact .inl (.inr ⟨o, h _ _ s⟩)
  · exact .inr s
theorem sqT_ext {K : PySem.W.Frag} {B H : Hp} (h : Ext B H) {a : Addr} {xs : List V} (s : SqT K B a xs) : SqT K H a xs := by
  rcases s with s | s
  · rcases s with s | ⟨o, s⟩
    · exact .inl (.inl (h _ _ s))
    · exact .inl (.inr ⟨o, h _ _ s⟩)
  · exact .inr s
mutual
/-- plain data at a value; a list stands in the tracked heap itself -/
inductive Rp (K : PySem.W.Frag) (H : Hp) : V → PyData → Prop
  | non : Rp K H .non .none
  | bl (b : Bool) : Rp K H (.bl b) (.bool b)
  | int (i : Int) : Rp K H (.int i) (.int i)
  | str (x : Str) : Rp K H (.str x) (.str x)
  | lst {a : Addr} {xs : List V} {ds : List PyData} : H a = some (.lst xs) → RpAll K H xs ds → Rp K H (.ref a) (.list ds)
  | tup {a : Addr} {xs : List V} {ds : List PyData} : SqT K H a xs → RpAll K H xs ds → Rp K H (.ref a) (.tuple ds)
inductive RpAll (K : PySem.W.Frag) (H : Hp) : List V → List PyData → Prop
  | nil : RpAll K H [] []
  | cons {v : V} {vs : List V} {d : PyData} {ds : List PyData} : Rp K H v d → RpAll K H vs ds → RpAll K H (v :: vs) (d :: ds)
end
mutual
theorem Rp.dp {K : PySem.W.Frag} {H : Hp} : ∀ (d : D) (v : V), Rp K H v d → Dp K H v d
  | .none, _, x => by cases x; exact .non
  | .bool _, _, x => by cases x; exact .bl _
  | .int _, _, x => by cases x; exact .int _
  | .str _, _, x => by cases x; exact .str _
  | .list ds, _, x => by cases x with | lst a b => exact .lst (.inl (.inl a)) (RpAll.dp ds _ b)
  | .tuple ds, _, x => by cases x with | tup a b => exact .tup a (RpAll.dp ds _ b)
  | .dict _, _, x => by cases x
theorem RpAll.dp {K : PySem.W.Frag} {H : Hp} : ∀ (ds : List D) (vs : List V), RpAll K H vs ds → DpAll K H vs ds
  | [], _, x => by cases x; exact .nil
  | d :: ds, _, x => by cases x with | cons a b => exact .cons (Rp.dp d _ a) (RpAll.dp ds _ b)
end
mutual
theorem dp_ext {K : PySem.W.Frag} {B H : Hp} (h : Ext B H) : ∀ (d : D) (v : V), Rp K B v d → Rp K H v d
  | .none, _, x => by cases x; exact .non
  | .bool _, _, x => by cases x; exact .bl _
  | .int _, _, x => by cases x; exact .int _
  | .str _, _, x => by cases x; exact .str _
  | .list ds, _, x => by cases x with | lst a b => exact .lst (h _ _ a) (dpAll_ext h ds _ b)
  | .tuple ds, _, x => by cases x with | tup a b => exact .tup (sqT_ext h a) (dpAll_ext h ds _ b)
  | .dict _, _, x => by cases x
theorem dpAll_ext {K : PySem.W.Frag} {B H : Hp} (h : Ext B H) : ∀ (ds : List D) (vs : List V), RpAll K B vs ds → RpAll K H vs ds
  | [], _, x => by cases x; exact .nil
  | d :: ds, _, x => by cases x with | cons a b => exact .cons (dp_ext h d _ a) (dpAll_ext h ds _ b)
end

mutual
/-- d at v, the lists to depth n one's own (their addresses: A), the rest in the base B -/
def Own (K : PySem.W.Frag) (B H : Hp) : Nat → D → V → List Addr → Prop
  | 0, d, v, A => A = [] ∧ Rp K B v d
  | n + 1, .list ds, v, A => ∃ p xs A', v = .ref p ∧ H p = some (.lst xs) ∧ B p = none ∧ A = p :: A' ∧ OwnAll K B H n ds xs A'
  | n + 1, .tuple ds, v, A => ∃ p xs, v = .ref p ∧ SqT K B p xs ∧ OwnAll K B H n ds xs A
  | _ + 1, .none, v, A => A = [] ∧ Rp K B v .none
  | _ + 1, .bool b, v, A => A = [] ∧ Rp K B v (.bool b)
  | _ + 1, .int b, v, A => A = [] ∧ Rp K B v (.int b)
  | _ + 1, .str b, v, A => A = [] ∧ Rp K B v (.str b)
  | _ + 1, .dict b, v, A => A = [] ∧ Rp K B v (.dict b)
def OwnAll (K : PySem.W.Frag) (B H : Hp) : Nat → List D → List V → List Addr → Prop
  | _, [], xs, A => xs = [] ∧ A = []
  | n, d :: ds, xs, A => ∃ x xs' A1 A2, xs = x :: xs' ∧ A = A1 ++ A2 ∧ Own K B H n d x A1 ∧ OwnAll K B H n ds xs' A2
end
theorem own_zero {K : PySem.W.Frag} {B H : Hp} {d : D} {v : V} {A : List Addr} : Own K B H 0 d v A ↔ A = [] ∧ Rp K B v d := by
  cases d <;> simp [Own]

/-- a step: the base grows by new things, what stood stands, but for the urn -/
structure Mv (U : Option Addr) (B H B' H' : Hp) : Prop where
  eb : Ext B B'
  eh : Ext B' H'
  kp : ∀ a o, H a = some o → U ≠ some a → H' a = some o
  nw : ∀ a o, B' a = some o → B a = some o ∨ H a = none
  ur : ∀ u, U = some u → UrnC H u → UrnC H' u
theorem Mv.refl {U : Option Addr} {B H : Hp} (h : Ext B H) : Mv U B H B H := ⟨Ext.refl _, h, fun _ _ e _ => e, fun _ _ e => .inl e, fun _ _ x => x⟩
theorem Mv.trans {U : Option Addr} {B H B1 H1 B2 H2 : Hp} (a : Mv U B H B1 H1) (b : Mv U B1 H1 B2 H2) (hu : ∀ u, U = some u → H u ≠ none → H1 u ≠ none) : Mv U B H B2 H2 where
  eb := a.eb.trans b.eb
  eh := b.eh
  kp := fun x o e n => b.kp x o (a.kp x o e n) n
  nw := fun x o e => by
    rcases b.nw x o e with h | h
    · exact a.nw x o h
    · right
      cases q : H x with
      | none => rfl
      | some o' =>
        by_cases n : U = some x
        · exact absurd h (hu x n (by rw [q]; simp))
        · rw [a.kp x o' q n] at h; cases h
  ur := fun u e x => b.ur u e (a.ur u e x)
theorem UrnC.some {H : Hp} {u : Addr} (x : UrnC H u) : H u ≠ none := by
  obtain ⟨g, m, q, e, _⟩ := x
  rw [e]; simp
/-- the urn stands at the start -/
theorem Mv.trans' {U : Option Addr} {B H B1 H1 B2 H2 : Hp} (a : Mv U B H B1 H1) (b : Mv U B1 H1 B2 H2) (hu : ∀ u, U = some u → UrnC H u) : Mv U B H B2 H2 :=
  a.trans b fun u e _ => (a.ur u e (hu u e)).some

def SlOk (K : PySem.W.Frag) (U : Option Addr) (B H : Hp) (o : Option (Option V)) : Sl → List Addr → Prop
  | .no, A => A = []
  | .val d, A => A = [] ∧ ∃ v, o = some (some v) ∧ Rp K B v d
  | .own n d, A => ∃ v, o = some (some v) ∧ Own K B H n d v A
  | .urn, A => A = [] ∧ ∃ u, U = some u ∧ o = some (some (.ref u))
  | .raw v, A => A = [] ∧ o = some (some v)
  | .scr ns, A => A = [] ∧ ∃ a, o = some (some (.ref a)) ∧ SqL K B a (ns.map V.int)

theorem lst_none {K : PySem.W.Frag} {B H : Hp} (h : Ext B H) {a : Addr} : B a ≠ none → H a ≠ none := fun hb hh => by
  cases q : B a with
  | none => exact hb q
  | some o => rw [h a o q] at hh; cases hh
mutual
/-- one's own lists stay where nothing of them is changed -/
theorem own_mv {K : PySem.W.Frag} {B H B' H' : Hp} (eb : Ext B B') : ∀ (n : Nat) (d : D) (v : V) (A : List Addr), (∀ a o, a ∈ A → H a = some o → H' a = some o) → (∀ a, a ∈ A → B' a = none) → Own K B H n d v A → Own K B' H' n d v A
  | 0, d, v, A, _, _, x => by
    rw [own_zero] at x ⊢
    exact ⟨x.1, dp_ext eb _ _ x.2⟩
  | n + 1, .list ds, v, A, hk, hb, x => by
    simp only [Own] at x ⊢
    obtain ⟨p, xs, A', rfl, hp, bp, rfl, r⟩ := x
    exact ⟨p, xs, A', rfl, hk p _ List.mem_cons_self hp, hb p List.mem_cons_self, rfl, ownAll_mv eb n ds xs A' (fun a o m => hk a o (List.mem_cons_of_mem _ m)) (fun a m => hb a (List.mem_cons_of_mem _ m)) r⟩
  | n + 1, .tuple ds, v, A, hk, hb, x => by
    simp only [Own] at x ⊢
    obtain ⟨p, xs, rfl, hp, r⟩ := x
    exact ⟨p, xs, rfl, sqT_ext eb hp, ownAll_mv eb n ds xs A hk hb r⟩
  | n + 1, .none, v, A, _, _, x => by simp only [Own] at x ⊢; exact ⟨x.1, dp_ext eb _ _ x.2⟩
  | n + 1, .bool _, v, A, _, _, x => by simp only [Own] at x ⊢; exact ⟨x.1, dp_ext eb _ _ x.2⟩
  | n + 1, .int _, v, A, _, _, x => by simp only [Own] at x ⊢; exact ⟨x.1, dp_ext eb _ _ x.2⟩
  | n + 1, .str _, v, A, _, _, x => by simp only [Own] at x ⊢; exact ⟨x.1, dp_ext eb _ _ x.2⟩
  | n + 1, .dict _, v, A, _, _, x => by simp only [Own] at x ⊢; exact ⟨x.1, dp_ext eb _ _ x.2⟩
theorem ownAll_mv {K : PySem.W.Frag} {B H B' H' : Hp} (eb : Ext B B') : ∀ (n : Nat) (ds : List D) (vs : List V) (A : List Addr), (∀ a o, a ∈ A → H a = some o → H' a = some o) → (∀ a, a ∈ A → B' a = none) → OwnAll K B H n ds vs A → OwnAll K B' H' n ds vs A
  | n, [], vs, A, _, _, x => by simp only [OwnAll] at x ⊢; exact x
  | n, d :: ds, vs, A, hk, hb, x => by
    simp only [OwnAll] at x ⊢
    obtain ⟨y, ys, A1, A2, rfl, rfl, r1, r2⟩ := x
    exact ⟨y, ys, A1, A2, rfl, rfl, own_mv eb n d y A1 (fun a o m => hk a o (List.mem_append_left _ m)) (fun a m => hb a (List.mem_append_left _ m)) r1,
      ownAll_mv eb n ds ys A2 (fun a o m => hk a o (List.mem_append_right _ m)) (fun a m => hb a (List.mem_append_right _ m)) r2⟩
end
mutual
/-- one's own addresses stand in the heap, not in the base -/
theorem own_in {K : PySem.W.Frag} {B H : Hp} : ∀ (n : Nat) (d : D) (v : V) (A : List Addr), Own K B H n d v A → ∀ a ∈ A, (∃ xs, H a = some (.lst xs)) ∧ B a = none
  | 0, d, v, A, x => by
    rw [own_zero] at x
    intro a m; rw [x.1] at m; cases m
  | n + 1, .list ds, v, A, x => by
    simp only [Own] at x
    obtain ⟨p, xs, A', rfl, hp, bp, rfl, r⟩ := x
    intro a m
    rcases List.mem_cons.mp m with rfl | m
    · exact ⟨⟨xs, hp⟩, bp⟩
    · exact ownAll_in n ds xs A' r a m
  | n + 1, .tuple ds, v, A, x => by
    simp only [Own] at x
    obtain ⟨p, xs, rfl, hp, r⟩ := x
    exact ownAll_in n ds xs A r
  | n + 1, .none, v, A, x => by simp only [Own] at x; intro a m; rw [x.1] at m; cases m
  | n + 1, .bool _, v, A, x => by simp only [Own] at x; intro a m; rw [x.1] at m; cases m
  | n + 1, .int _, v, A, x => by simp only [Own] at x; intro a m; rw [x.1] at m; cases m
  | n + 1, .str _, v, A, x => by simp only [Own] at x; intro a m; rw [x.1] at m; cases m
  | n + 1, .dict _, v, A, x => by simp only [Own] at x; intro a m; rw [x.1] at m; cases m
theorem ownAll_in {K : PySem.W.Frag} {B H : Hp} : ∀ (n : Nat) (ds : List D) (vs : List V) (A : List Addr), OwnAll K B H n ds vs A → ∀ a ∈ A, (∃ xs, H a = some (.lst xs)) ∧ B a = none
  | n, [], vs, A, x => by simp only [OwnAll] at x; intro a m; rw [x.2] at m; cases m
  | n, d :: ds, vs, A, x => by
    simp only [OwnAll] at x
    obtain ⟨y, ys, A1, A2, rfl, rfl, r1, r2⟩ := x
    intro a m
    rcases List.mem_append.mp m with m | m
    · exact own_in n d y A1 r1 a m
    · exact ownAll_in n ds ys A2 r2 a m
end
/-- the base with one's own lists laid into it -/
def Bu (B H : Hp) (A : List Addr) : Hp := fun a => if a ∈ A then H a else B a
theorem Bu.in_ {B H : Hp} {A : List Addr} {a : Addr} (h : a ∈ A) : Bu B H A a = H a := if_pos h
theorem Bu.out {B H : Hp} {A : List Addr} {a : Addr} (h : a ∉ A) : Bu B H A a = B a := if_neg h
theorem Bu.ext {B H : Hp} {A : List Addr} (h : Ext B H) : Ext (Bu B H A) H := fun a o e => by
  by_cases m : a ∈ A
  · rw [Bu.in_ m] at e; exact e
  · rw [Bu.out m] at e; exact h a o e
theorem Bu.base {B H : Hp} {A : List Addr} (h : Ext B H) : Ext B (Bu B H A) := fun a o e => by
  by_cases m : a ∈ A
  · rw [Bu.in_ m]; exact h a o e
  · rw [Bu.out m]; exact e
mutual
theorem own_frz {K : PySem.W.Frag} {B B' H : Hp} (eb : Ext B B') : ∀ (n : Nat) (d : D) (v : V) (A : List Addr), (∀ a ∈ A, B' a = H a) → Own K B H n d v A → Rp K B' v d
  | 0, d, v, A, _, x => by rw [own_zero] at x; exact dp_ext eb _ _ x.2
  | n + 1, .list ds, v, A, hA, x => by
    simp only [Own] at x
    obtain ⟨p, xs, A', rfl, hp, bp, rfl, r⟩ := x
    exact .lst ((hA p List.mem_cons_self).trans hp) (ownAll_frz eb n ds xs A' (fun a m => hA a (List.mem_cons_of_mem _ m)) r)
  | n + 1, .tuple ds, v, A, hA, x => by
    simp only [Own] at x
    obtain ⟨p, xs, rfl, hp, r⟩ := x
    exact .tup (sqT_ext eb hp) (ownAll_frz eb n ds xs A hA r)
  | n + 1, .none, v, A, _, x => by simp only [Own] at x; exact dp_ext eb _ _ x.2
  | n + 1, .bool _, v, A, _, x => by simp only [Own] at x; exact dp_ext eb _ _ x.2
  | n + 1, .int _, v, A, _, x => by simp only [Own] at x; exact dp_ext eb _ _ x.2
  | n + 1, .str _, v, A, _, x => by simp only [Own] at x; exact dp_ext eb _ _ x.2
  | n + 1, .dict _, v, A, _, x => by simp only [Own] at x; exact dp_ext eb _ _ x.2
theorem ownAll_frz {K : PySem.W.Frag} {B B' H : Hp} (eb : Ext B B') : ∀ (n : Nat) (ds : List D) (vs : List V) (A : List Addr), (∀ a ∈ A, B' a = H a) → OwnAll K B H n ds vs A → RpAll K B' vs ds
  | n, [], vs, A, _, x => by simp only [OwnAll] at x; rw [x.1]; exact .nil
  | n, d :: ds, vs, A, hA, x => by
    simp only [OwnAll] at x
    obtain ⟨y, ys, A1, A2, rfl, rfl, r1, r2⟩ := x
    exact .cons (own_frz eb n d y A1 (fun a m => hA a (List.mem_append_left _ m)) r1) (ownAll_frz eb n ds ys A2 (fun a m => hA a (List.mem_append_right _ m)) r2)
end

theorem SlOk.mv {K : PySem.W.Frag} {U : Option Addr} {B H B' H' : Hp} (m : Mv U B H B' H') {o : Option (Option V)} {s : Sl} {A : List Addr} (hu : ∀ u, U = some u → u ∉ A) (x : SlOk K U B H o s A) : SlOk K U B' H' o s A := by
  cases s with
  | no => exact x
  | val d => obtain ⟨e, v, ev, h⟩ := x; exact ⟨e, v, ev, dp_ext m.eb _ _ h⟩
  | own n d =>
    obtain ⟨v, ev, h⟩ := x
    have hin := own_in n d v A h
    refine ⟨v, ev, own_mv m.eb n d v A (fun a o ha e => m.kp a o e fun q => hu a q ha) (fun a ha => ?_) h⟩
    obtain ⟨⟨xs, e1⟩, e2⟩ := hin a ha
    cases q : B' a with
    | none => rfl
    | some o =>
      rcases m.nw a o q with z | z
      · rw [e2] at z; cases z
      · rw [e1] at z; cases z
  | urn => exact x
  | raw v => exact x
  | scr ns => obtain ⟨e, a, ea, h⟩ := x; exact ⟨e, a, ea, sqL_ext m.eb h⟩

/-- the state: slots ρ at σ, over the base B in the heap H; the call began at B0, H0, with the urn U0 -/
structure StOk (K : PySem.W.Frag) (U0 : Option Addr) (B0 H0 : Hp) (U : Option Addr) (ρ : Sts) (σ : L2.St) (B H : Hp) (As : Nat → List Addr) : Prop where
  len : σ.length = ρ.length
  mv : Mv U0 B0 H0 B H
  u0 : ∀ u, U0 = some u → UrnC H0 u
  at_ : ∀ i s, ρ[i]? = some s → SlOk K U B H σ[i]? s (As i)
  ot : ∀ i, ρ[i]? = none → As i = []
  fr : ∀ i a, a ∈ As i → H0 a = none
  nd : ∀ i, (As i).Nodup
  sp : ∀ i j a, a ∈ As i → a ∈ As j → i = j
  uA : ∀ u, U = some u → ∀ i, u ∉ As i
  uC : ∀ u, U = some u → UrnC H u ∧ B u = none ∧ (U0 = some u ∨ H0 u = none)
theorem StOk.ext {K : PySem.W.Frag} {U0 : Option Addr} {B0 H0 : Hp} {U : Option Addr} {ρ : Sts} {σ : L2.St} {B H : Hp} {As : Nat → List Addr} (x : StOk K U0 B0 H0 U ρ σ B H As) : Ext B H := x.mv.eh
theorem StOk.step {K : PySem.W.Frag} {U0 : Option Addr} {B0 H0 : Hp} {U : Option Addr} {ρ : Sts} {σ : L2.St} {B H B' H' : Hp} {As : Nat → List Addr} (x : StOk K U0 B0 H0 U ρ σ B H As) (m : Mv U B H B' H') : StOk K U0 B0 H0 U ρ σ B' H' As where
  len := x.len
  mv := by
    refine ⟨x.mv.eb.trans m.eb, m.eh, fun a o e n => ?_, fun a o e => ?_, fun u e q => ?_⟩
    · refine m.kp a o (x.mv.kp a o e n) fun q => ?_
      obtain ⟨_, _, h | h⟩ := x.uC a q
      · exact n h
      · rw [e] at h; cases h
    · rcases m.nw a o e with h | h
      · exact x.mv.nw a o h
      · right
        cases q : H0 a with
        | none => rfl
        | some o' =>
          by_cases n : U0 = some a
          · exact absurd h (x.mv.ur a n (x.u0 a n)).some
          · rw [x.mv.kp a o' q n] at h; cases h
    · by_cases hU : U = some u
      · exact m.ur u hU (x.mv.ur u e q)
      · obtain ⟨g, n, p, e1, r⟩ := x.mv.ur u e q
        exact ⟨g, n, p, m.kp u _ e1 hU, r⟩
  u0 := x.u0
  at_ := fun i s e => (x.at_ i s e).mv m fun u hu => x.uA u hu i
  ot := x.ot
  fr := x.fr
  nd := x.nd
  sp := x.sp
  uA := x.uA
  uC := fun u e => by
    obtain ⟨h1, h2, h3⟩ := x.uC u e
    refine ⟨m.ur u e h1, ?_, h3⟩
    cases q : B' u with
    | none => rfl
    | some o =>
      rcases m.nw u o q with z | z
      · rw [h2] at z; cases z
      · exact absurd z h1.some

/-- a value that has come: what it is, its own lists new since H -/
structure RsOk (K : PySem.W.Frag) (U : Option Addr) (H B' H' : Hp) (v : V) (s : Sl) (A : List Addr) : Prop where
  ok : SlOk K U B' H' (some (some v)) s A
  nd : A.Nodup
  fr : ∀ a ∈ A, H a = none
theorem RsOk.val {K : PySem.W.Frag} {U : Option Addr} {H B' H' : Hp} {v : V} {d : D} (h : Rp K B' v d) : RsOk K U H B' H' v (.val d) [] := ⟨⟨rfl, v, rfl, h⟩, List.nodup_nil, fun _ m => nomatch m⟩
theorem RsOk.raw {K : PySem.W.Frag} {U : Option Addr} {H B' H' : Hp} {v : V} : RsOk K U H B' H' v (.raw v) [] := ⟨⟨rfl, rfl⟩, List.nodup_nil, fun _ m => nomatch m⟩

/-! ### the judgements at the values' level -/
abbrev WE := Sts → (Sl → Prop) → EX → Prop
abbrev WT := Sts → (Bool → Prop) → EX → Prop
abbrev WA := Sts → (List Sl → Prop) → EX → Prop
structure Ds where
  nx : Sts → Prop
  rt : Sl → Prop
  bk : Sts → Prop := fun _ => False
  ct : Sts → Prop := fun _ => False
  ex : EX
abbrev WS := Ds → Sts → Prop

def SimE (K : PySem.W.Frag) (W : WX) (t : TE) (w : WE) : Prop := ∀ U0 B0 H0 U ρ σ B H As (Qv : Sl → Prop) (Ev : EX) (Q : VK), StOk K U0 B0 H0 U ρ σ B H As → w ρ Qv Ev →
  (∀ s v B' H' A, Mv U B H B' H' → RsOk K U H B' H' v s A → Qv s → Q v H') → (∀ c B' H', Mv U B H B' H' → Ev c → W c none σ H') → t σ H Q
def SimT (K : PySem.W.Frag) (W : WX) (t : TT) (w : WT) : Prop := ∀ U0 B0 H0 U ρ σ B H As (Qv : Bool → Prop) (Ev : EX) (Q : Bool → Hp → Prop), StOk K U0 B0 H0 U ρ σ B H As → w ρ Qv Ev →
  (∀ b B' H', Mv U B H B' H' → Qv b → Q b H') → (∀ c B' H', Mv U B H B' H' → Ev c → W c none σ H') → t σ H Q
/-- arguments: nothing of one's own among them -/
inductive ArOk (K : PySem.W.Frag) (U : Option Addr) (B : Hp) : List V → List Sl → Prop
  | nil : ArOk K U B [] []
  | val {v d vs ss} : Rp K B v d → ArOk K U B vs ss → ArOk K U B (v :: vs) (.val d :: ss)
  | urn {u vs ss} : U = some u → ArOk K U B vs ss → ArOk K U B (.ref u :: vs) (.urn :: ss)
  | raw {v vs ss} : ArOk K U B vs ss → ArOk K U B (v :: vs) (.raw v :: ss)
  | scr {a ns vs ss} : SqL K B a (ns.map V.int) → ArOk K U B vs ss → ArOk K U B (.ref a :: vs) (.scr ns :: ss)
theorem ArOk.ext {K : PySem.W.Frag} {U : Option Addr} {B B' : Hp} (h : Ext B B') {vs : List V} {ss : List Sl} (x : ArOk K U B vs ss) : ArOk K U B' vs ss := by
  induction x with
  | nil => exact .nil
  | val a _ ih => exact .val (dp_ext h _ _ a) ih
  | urn a _ ih => exact .urn a ih
  | raw _ ih => exact .raw ih
  | scr a _ ih => exact .scr (sqL_ext h a) ih
def SimA (K : PySem.W.Frag) (W : WX) (t : TA) (w : WA) : Prop := ∀ U0 B0 H0 U ρ σ B H As (Qv : List Sl → Prop) (Ev : EX) (Q : List V → Hp → Prop), StOk K U0 B0 H0 U ρ σ B H As → w ρ Qv Ev →
  (∀ ss vs B' H', Mv U B H B' H' → ArOk K U B' vs ss → Qv ss → Q vs H') → (∀ c B' H', Mv U B H B' H' → Ev c → W c none σ H') → t σ H Q
def SimS (K : PySem.W.Frag) (W : WX) (t : TS) (w : WS) : Prop := ∀ U0 B0 H0 U ρ σ B H As (Dv : Ds) (Dn : Ends), StOk K U0 B0 H0 U ρ σ B H As → w Dv ρ →
  (∀ U' ρ' σ' B' H' As', StOk K U0 B0 H0 U' ρ' σ' B' H' As' → Ext B B' → Dv.nx ρ' → Dn.nx σ' H') →
  (∀ U' ρ' σ' B' H' As', StOk K U0 B0 H0 U' ρ' σ' B' H' As' → Ext B B' → Dv.bk ρ' → Dn.bk σ' H') →
  (∀ U' ρ' σ' B' H' As', StOk K U0 B0 H0 U' ρ' σ' B' H' As' → Ext B B' → Dv.ct ρ' → Dn.ct σ' H') →
  (∀ s v B' H' A, Mv U0 B0 H0 B' H' → RsOk K U0 H0 B' H' v s A → Dv.rt s → Dn.rt v H') →
  (∀ c U' ρ' σ' B' H' As', StOk K U0 B0 H0 U' ρ' σ' B' H' As' → Dv.ex c → W c none σ' H') → t Dn σ H

/-- a value with its data -/
def Sl.dat : Sl → Option D
  | .val d => some d
  | .own _ d => some d
  | _ => none
def frzS : Sl → Sl
  | .own _ d => .val d
  | s => s
/-- the value that has come, as plain data, its own lists laid into the base -/
theorem RsOk.frz {K : PySem.W.Frag} {U : Option Addr} {B H B' H' : Hp} {v : V} {s : Sl} {A : List Addr} (m : Mv U B H B' H') (r : RsOk K U H B' H' v s A) : ∃ B'', Mv U B H B'' H' ∧ Ext B' B'' ∧ RsOk K U H B'' H' v (frzS s) [] := by
  cases s with
  | own n d =>
    obtain ⟨v', ev, h⟩ := r.ok
    cases ev
    have hin := own_in n d v A h
    refine ⟨Bu B' H' A, ⟨m.eb.trans (Bu.base m.eh), Bu.ext m.eh, m.kp, fun a o e => ?_, m.ur⟩, Bu.base m.eh, RsOk.val (own_frz (Bu.base m.eh) n d v A (fun a ha => Bu.in_ ha) h)⟩
    by_cases ha : a ∈ A
    · exact .inr (r.fr a ha)
    · rw [Bu.out ha] at e
      exact m.nw a o e
  | no => exact ⟨B', m, Ext.refl _, ⟨by have := r.ok; exact rfl, List.nodup_nil, fun _ z => nomatch z⟩⟩
  | val d => exact ⟨B', m, Ext.refl _, ⟨⟨rfl, r.ok.2⟩, List.nodup_nil, fun _ z => nomatch z⟩⟩
  | urn => exact ⟨B', m, Ext.refl _, ⟨⟨rfl, r.ok.2⟩, List.nodup_nil, fun _ z => nomatch z⟩⟩
  | raw v => exact ⟨B', m, Ext.refl _, ⟨⟨rfl, r.ok.2⟩, List.nodup_nil, fun _ z => nomatch z⟩⟩
  | scr ns => exact ⟨B', m, Ext.refl _, ⟨⟨rfl, r.ok.2⟩, List.nodup_nil, fun _ z => nomatch z⟩⟩
theorem RsOk.dp {K : PySem.W.Frag} {U : Option Addr} {H B' H' : Hp} {v : V} {d : D} {A : List Addr} (r : RsOk K U H B' H' v (.val d) A) : Rp K B' v d := by
  obtain ⟨_, v', e, h⟩ := r.ok
  cases e; exact h
/-- an expression as plain data -/
def dOf (w : WE) (ρ : Sts) (Q : D → Prop) (E : EX) : Prop := w ρ (fun s => match s.dat with | some d => Q d | none => False) E
theorem SimE.dat {K : PySem.W.Frag} {W : WX} {t : TE} {w : WE} (h : SimE K W t w) {U0 B0 H0 U ρ σ B H As} {Qv : D → Prop} {Ev : EX} {Q : VK} (x : StOk K U0 B0 H0 U ρ σ B H As) (hw : dOf w ρ Qv Ev)
    (k : ∀ d v B' H', Mv U B H B' H' → Rp K B' v d → Qv d → Q v H') (e : ∀ c B' H', Mv U B H B' H' → Ev c → W c none σ H') : t σ H Q := by
  refine h U0 B0 H0 U ρ σ B H As _ Ev Q x hw (fun s v B' H' A m r q => ?_) e
  obtain ⟨B'', m', eb, r'⟩ := r.frz m
  cases s with
  | val d => exact k d v B'' H' m' r'.dp q
  | own n d => exact k d v B'' H' m' r'.dp q
  | no => exact False.elim q
  | urn => exact False.elim q
  | raw _ => exact False.elim q
  | scr _ => exact False.elim q
end VL

set_option Elab.async false
set_option linter.all false
set_option maxRecDepth 100000
set_option maxHeartbeats 2000000
/-! VR: the rules of the value layer. -/
namespace VL
open PySem PySem.Spec PyProof.Rows L2

structure VE (X : Cx) (W : WX) (e : Expr) (w : WE) : Prop where
  ex : ∃ t, PE X e t ∧ SimE X.K W t w
structure VT (X : Cx) (W : WX) (e : Expr) (w : WT) : Prop where
  ex : ∃ t, PT X e t ∧ SimT X.K W t w
structure VPW (X : Cx) (W : WX) (e : Expr) (w : WT) : Prop where
  ex : ∃ t, PW X e t ∧ SimT X.K W t w
structure VA (X : Cx) (W : WX) (es : List Expr) (w : WA) : Prop where
  ex : ∃ t, PA X es t ∧ SimA X.K W t w
structure VS (X : Cx) (W : WX) (st : Stmt) (w : WS) : Prop where
  ex : ∃ t, PS X st t ∧ SimS X.K W t w
structure VSs (X : Cx) (W : WX) (st : List Stmt) (w : WS) : Prop where
  ex : ∃ t, PSs X st t ∧ SimS X.K W t w

section
variable {X : Cx} {W : WX} {pos : Pos}

/-! ### names, constants -/
def wVar (i : Nat) : WE := fun ρ Q _ => match ρ[i]? with
  | some (.val d) => Q (.val d)
  | some .urn => Q .urn
  | some (.raw v) => Q (.raw v)
  | some (.scr ns) => Q (.scr ns)
  | _ => False
theorem ve_var {x : Str} {i : Nat} (hN : X.N[i]? = some x) (hv : Vis X.env.scope x) (hd : (x == ("__debug__" : Str)) = false := by decide) (hcd : (x == ("__classdict__" : Str)) = false := by decide) : VE X W (.Name x pos) (wVar i) := by
  refine ⟨tVar i, pe_var hN hv hd hcd, fun U0 B0 H0 U ρ σ B H As Qv Ev Q x hw k e => ?_⟩
  unfold wVar at hw
  have m := Mv.refl (U := U) x.ext
  cases q : ρ[i]? with
  | none => rw [q] at hw; exact hw.elim
  | some s =>
    rw [q] at hw
    have a := x.at_ i s q
    cases s with
    | no => exact hw.elim
    | own n d => exact hw.elim
    | val d =>
      obtain ⟨_, v, ev, h⟩ := a
      exact ⟨v, ev, k _ v B H [] m (.val h) hw⟩
    | urn =>
      obtain ⟨_, u, eu, ev⟩ := a
      exact ⟨_, ev, k .urn _ B H [] m ⟨⟨rfl, u, eu, rfl⟩, List.nodup_nil, fun _ z => nomatch z⟩ hw⟩
    | raw v => exact ⟨v, a.2, k _ v B H [] m .raw hw⟩
    | scr ns =>
      obtain ⟨_, b, eb, h⟩ := a
      exact ⟨_, eb, k (.scr ns) _ B H [] m ⟨⟨rfl, b, rfl, h⟩, List.nodup_nil, fun _ z => nomatch z⟩ hw⟩
def wC (d : D) : WE := fun _ Q _ => Q (.val d)
theorem sim_c {K : PySem.W.Frag} {v : V} {d : D} (h : ∀ B, Rp K B v d) : SimE K W (tC v) (wC d) := fun _ _ _ _ _ _ B H _ _ _ _ x hw k _ => k _ v B H [] (Mv.refl x.ext) (.val (h B)) hw
theorem ve_int {i : Int} {j : Nat} : VE X W (.Constant (.int i) j pos) (wC (.int i)) := ⟨_, pe_int, sim_c fun _ => .int _⟩
theorem ve_str {i : Str} {j : Nat} : VE X W (.Constant (.str i) j pos) (wC (.str i)) := ⟨_, pe_str, sim_c fun _ => .str _⟩
theorem ve_bl {i : Bool} {j : Nat} : VE X W (.Constant (.bool i) j pos) (wC (.bool i)) := ⟨_, pe_bl, sim_c fun _ => .bl _⟩
theorem ve_non {j : Nat} : VE X W (.Constant .none j pos) (wC .none) := ⟨_, pe_non, sim_c fun _ => .non⟩
/-- a constant of the module -/
theorem ve_glob {x : Str} {v : V} {u : Value} {d : D} (hg : Gl X x) (hm : X.mg x = some u) (r : RelV v u) (h : ∀ B, Rp X.K B v d) (hd : (x == ("__debug__" : Str)) = false := by decide) : VE X W (.Name x pos) (wC d) :=
  ⟨_, pe_glob hg hm r hd, sim_c h⟩
def wR (v : V) : WE := fun _ Q _ => Q (.raw v)
theorem sim_r {K : PySem.W.Frag} {v : V} : SimE K W (tC v) (wR v) := fun _ _ _ _ _ _ B H _ _ _ _ x hw k _ => k _ v B H [] (Mv.refl x.ext) .raw hw
theorem ve_globR {x : Str} {v : V} {u : Value} (hg : Gl X x) (hm : X.mg x = some u) (r : RelV v u) (hd : (x == ("__debug__" : Str)) = false := by decide) : VE X W (.Name x pos) (wR v) := ⟨_, pe_glob hg hm r hd, sim_r⟩
theorem ve_bltnR {x : Str} {v : V} {u : Value} (hg : Gl X x) (hm : X.mg x = none) (hv : bootBuiltins x = some u) (r : RelV v u) (hn : x ≠ "__name__" := by decide) (hd : (x == ("__debug__" : Str)) = false := by decide) : VE X W (.Name x pos) (wR v) :=
  ⟨_, pe_bltn hg hm hv r hn hd, sim_r⟩

/-! ### operators -/
abbrev O2 := D → D → (Sl → Prop) → Prop
def SimOp (K : PySem.W.Frag) (r : R2) (o : O2) : Prop := ∀ (U : Option Addr) (B H : Hp) (x y : V) (d e : D) (Qv : Sl → Prop) (Q : VK), Ext B H → (∀ u, U = some u → H u ≠ none) → Rp K B x d → Rp K B y e → o d e Qv →
  (∀ s v B' H' A, Mv U B H B' H' → RsOk K U H B' H' v s A → Qv s → Q v H') → r x y H Q
theorem none_back {U : Option Addr} {B H B' H' : Hp} (m : Mv U B H B' H') (hu : ∀ u, U = some u → UrnC H u) {a : Addr} (h : H' a = none) : H a = none := by
  cases q : H a with
  | none => rfl
  | some o =>
    by_cases n : U = some a
    · exact absurd h (m.ur a n (hu a n)).some
    · rw [m.kp a o q n] at h; cases h
theorem RsOk.back {K : PySem.W.Frag} {U : Option Addr} {B H B1 H1 B' H' : Hp} {v : V} {s : Sl} {A : List Addr} (m : Mv U B H B1 H1) (hu : ∀ u, U = some u → UrnC H u) (r : RsOk K U H1 B' H' v s A) : RsOk K U H B' H' v s A :=
  ⟨r.ok, r.nd, fun a ha => none_back m hu (r.fr a ha)⟩
def wBin (o : O2) (wa wb : WE) : WE := fun ρ Q E => dOf wa ρ (fun d => dOf wb ρ (fun e => o d e Q) E) E
theorem sim_op {K : PySem.W.Frag} {r : R2} {o : O2} {ta tb : TE} {wa wb : WE} (ho : SimOp K r o) (ha : SimE K W ta wa) (hb : SimE K W tb wb) : SimE K W (tOp r ta tb) (wBin o wa wb) := by
  intro U0 B0 H0 U ρ σ B H As Qv Ev Q x hw k e
  have hu : ∀ u, U = some u → UrnC H u := fun u q => (x.uC u q).1
  refine ha.dat x hw (fun d v B1 H1 m1 r1 q1 => ?_) e
  refine hb.dat (x.step m1) q1 (fun d2 v2 B2 H2 m2 r2 q2 => ?_) (fun c B' H' m q => e c B' H' (m1.trans' m hu) q)
  have m12 := m1.trans' m2 hu
  exact ho U B2 H2 v v2 d d2 Qv Q m2.eh (fun u q => (m12.ur u q (hu u q)).some) (dp_ext m2.eb _ _ r1) r2 q2 fun s v' B' H' A m r q => k s v' B' H' A (m12.trans' m hu) (r.back m12 hu) q
theorem ve_bin {op : Operator} {r : R2} {o : O2} {a b : Expr} {wa wb : WE} (hr : OpR X (binaryOp op) r) (ho : SimOp X.K r o) (ha : VE X W a wa) (hb : VE X W b wb) : VE X W (.BinOp a op b pos) (wBin o wa wb) := by
  obtain ⟨ta, pa, sa⟩ := ha.ex
  obtain ⟨tb, pb, sb⟩ := hb.ex
  exact ⟨_, pe_op hr pa pb, sim_op ho sa sb⟩
theorem ve_cmp {op : CmpOp} {r : R2} {o : O2} {a b : Expr} {wa wb : WE} (hr : OpR X (compareOp op) r) (ho : SimOp X.K r o) (hm : behindInMarks op b = false) (ha : VE X W a wa) (hb : VE X W b wb) : VE X W (.Compare a [op] [b] pos) (wBin o wa wb) := by
  obtain ⟨ta, pa, sa⟩ := ha.ex
  obtain ⟨tb, pb, sb⟩ := hb.ex
  exact ⟨_, pe_cmpR hr pa pb hm, sim_op ho sa sb⟩
/-- one rule out of two -/
def rOr (r r' : R2) : R2 := fun x y H Q => r x y H Q ∨ r' x y H Q
theorem opOr {f : Value → Value → Sem Value} {r r' : R2} (h : OpR X f r) (h' : OpR X f r') : OpR X f (rOr r r') := fun pins s σ H x y v u Q I rx ry q => by
  rcases q with q | q
  · exact h pins s σ H x y v u Q I rx ry q
  · exact h' pins s σ H x y v u Q I rx ry q

/-- a new thing is laid -/
theorem Mv.laid {U : Option Addr} {B H : Hp} (h : Ext B H) (hu : ∀ u, U = some u → H u ≠ none) {p : Addr} (hp : H p = none) (o : HO) : Mv U B H (upd B p o) (upd H p o) where
  eb := fun a u e => by
    by_cases q : a = p
    · subst q; rw [h a u e] at hp; cases hp
    · rw [upd_ne q]; exact e
  eh := fun a u e => by
    by_cases q : a = p
    · subst q; rw [upd_same] at e ⊢; exact e
    · rw [upd_ne q] at e ⊢; exact h a u e
  kp := fun a u e _ => by
    by_cases q : a = p
    · subst q; rw [hp] at e; cases e
    · rw [upd_ne q]; exact e
  nw := fun a u e => by
    by_cases q : a = p
    · subst q; exact .inr hp
    · rw [upd_ne q] at e; exact .inl e
  ur := fun u e x => by
    have q : u ≠ p := fun z => hu u e (by rw [z]; exact hp)
    obtain ⟨g, m, n, e1, r⟩ := x
    exact ⟨g, m, n, by rw [upd_ne q]; exact e1, r⟩
/-- a new list of one's own -/
theorem Mv.made {U : Option Addr} {B H : Hp} (h : Ext B H) {p : Addr} (hp : H p = none) (o : HO) : Mv U B H B (upd H p o) where
  eb := Ext.refl _
  eh := fun a u e => by
    by_cases q : a = p
    · subst q; rw [h a u e] at hp; cases hp
    · rw [upd_ne q]; exact h a u e
  kp := fun a u e _ => by
    by_cases q : a = p
    · subst q; rw [hp] at e; cases e
    · rw [upd_ne q]; exact e
  nw := fun a u e => .inl e
  ur := fun u e x => by
    obtain ⟨g, m, n, e1, r⟩ := x
    have q : u ≠ p := fun z => by rw [z, hp] at e1; cases e1
    exact ⟨g, m, n, by rw [upd_ne q]; exact e1, r⟩
theorem StOk.uN {K : PySem.W.Frag} {U0 : Option Addr} {B0 H0 : Hp} {U : Option Addr} {ρ : Sts} {σ : L2.St} {B H : Hp} {As : Nat → List Addr} (x : StOk K U0 B0 H0 U ρ σ B H As) : ∀ u, U = some u → H u ≠ none := fun u e => (x.uC u e).1.some
theorem RpAll.len {K : PySem.W.Frag} {H : Hp} {xs : List V} {ds : List D} (h : RpAll K H xs ds) : xs.length = ds.length := by
  induction ds generalizing xs with
  | nil => cases h; rfl
  | cons d ds ih => cases h with | cons a b => simp [ih b]
theorem RpAll.append {K : PySem.W.Frag} {H : Hp} : ∀ {xs : List V} {ds : List D} {ys : List V} {es : List D}, RpAll K H xs ds → RpAll K H ys es → RpAll K H (xs ++ ys) (ds ++ es)
  | _, [], _, _, h, k => by cases h; exact k
  | _, d :: ds, _, _, h, k => by cases h with | cons a b => exact .cons a (RpAll.append b k)
theorem RpAll.get {K : PySem.W.Frag} {H : Hp} : ∀ {xs : List V} {ds : List D} {i : Nat} {x : V}, RpAll K H xs ds → xs[i]? = some x → ∃ d, ds[i]? = some d ∧ Rp K H x d
  | _, [], _, _, h, e => by cases h; simp at e
  | _, d :: ds, 0, x, h, e => by cases h with | cons a b => simp at e; subst e; exact ⟨d, rfl, a⟩
  | _, d :: ds, i + 1, x, h, e => by
    cases h with
    | cons a b =>
      obtain ⟨d', h1, h2⟩ := RpAll.get (i := i) b (by simpa using e)
      exact ⟨d', by simpa using h1, h2⟩
theorem RpAll.getD {K : PySem.W.Frag} {H : Hp} {xs : List V} {ds : List D} {i : Nat} {d : D} (h : RpAll K H xs ds) (e : ds[i]? = some d) : ∃ x, xs[i]? = some x ∧ Rp K H x d := by
  have hl := h.len
  have hi : i < ds.length := (List.getElem?_eq_some_iff.mp e).1
  have hx : xs[i]? = some xs[i] := by simp [hl, hi]
  obtain ⟨d', e', r⟩ := h.get hx
  rw [e] at e'; cases e'
  exact ⟨_, hx, r⟩
theorem RpAll.take {K : PySem.W.Frag} {H : Hp} : ∀ {xs : List V} {ds : List D} (n : Nat), RpAll K H xs ds → RpAll K H (xs.take n) (ds.take n)
  | _, _, 0, _ => by simp; exact .nil
  | _, [], _ + 1, h => by cases h; simp; exact .nil
  | _, d :: ds, n + 1, h => by cases h with | cons a b => simp; exact .cons a (RpAll.take n b)
theorem RpAll.drop {K : PySem.W.Frag} {H : Hp} : ∀ {xs : List V} {ds : List D} (n : Nat), RpAll K H xs ds → RpAll K H (xs.drop n) (ds.drop n)
  | _, _, 0, h => h
  | _, [], _ + 1, h => by cases h; simp; exact .nil
  | _, d :: ds, n + 1, h => by cases h with | cons a b => simpa using RpAll.drop n b
theorem RpAll.ext {K : PySem.W.Frag} {B H : Hp} (h : Ext B H) {ds : List D} {xs : List V} : RpAll K B xs ds → RpAll K H xs ds := dpAll_ext h ds xs
theorem ownAll_zero {K : PySem.W.Frag} {B H : Hp} : ∀ {ds : List D} {xs : List V} {A : List Addr}, OwnAll K B H 0 ds xs A ↔ A = [] ∧ RpAll K B xs ds
  | [], xs, A => by
    simp only [OwnAll]
    constructor
    · rintro ⟨rfl, rfl⟩; exact ⟨rfl, .nil⟩
    · rintro ⟨rfl, h⟩; cases h; exact ⟨rfl, rfl⟩
  | d :: ds, xs, A => by
    simp only [OwnAll]
    constructor
    · rintro ⟨x, xs', A1, A2, rfl, rfl, h1, h2⟩
      rw [own_zero] at h1
      rw [ownAll_zero] at h2
      obtain ⟨rfl, h1⟩ := h1
      obtain ⟨rfl, h2⟩ := h2
      exact ⟨rfl, .cons h1 h2⟩
    · rintro ⟨rfl, h⟩
      cases h with
      | cons a b => exact ⟨_, _, [], [], rfl, rfl, own_zero.mpr ⟨rfl, a⟩, ownAll_zero.mpr ⟨rfl, b⟩⟩
/-- a new list at p, of plain things -/
theorem RsOk.lst {K : PySem.W.Frag} {U : Option Addr} {B H : Hp} {p : Addr} {xs : List V} {ds : List D} (hB : Ext B H) (hp : H p = none) (h : RpAll K B xs ds) : RsOk K U H B (upd H p (.lst xs)) (.ref p) (.own 1 (.list ds)) [p] := by
  refine ⟨⟨_, rfl, ?_⟩, by simp, fun a ha => (List.mem_singleton.mp ha) ▸ hp⟩
  simp only [Own]
  refine ⟨p, xs, [], rfl, upd_same, ?_, rfl, ownAll_zero.mpr ⟨rfl, h⟩⟩
  cases q : B p with
  | none => rfl
  | some o => rw [hB p o q] at hp; cases hp
/-- a new tuple at p -/
theorem RsOk.tup {K : PySem.W.Frag} {U : Option Addr} {B H H' : Hp} {p : Addr} {xs : List V} {ds : List D} (hB : Ext B H) (hp : H p = none) (h : RpAll K B xs ds) : RsOk K U H (upd B p (.tup xs)) H' (.ref p) (.val (.tuple ds)) [] := by
  refine .val (.tup (.inl (.inl upd_same)) (h.ext fun a o e => ?_))
  have q : a ≠ p := fun z => by subst z; rw [hB a o e] at hp; cases hp
  rw [upd_ne q]; exact e
end
end VL

set_option Elab.async false
set_option linter.all false
set_option maxRecDepth 100000
set_option maxHeartbeats 2000000
/-! VO: operators, tests, subscripts of the value layer. -/
namespace VL
open PySem PySem.Spec PyProof.Rows L2

section
variable {X : Cx} {W : WX} {pos : Pos}
/-! ### numbers -/
def mulOk (i j : Int) : Prop := i.natAbs.log2 + j.natAbs.log2 < 100000000
theorem mulOk.ok {i j : Int} (h : mulOk i j) : IntMulOk i j := by
  have b : ∀ x : Int, Builtin.Int.intBits x ≤ x.natAbs.log2 + 1 := fun x => by
    unfold Builtin.Int.intBits
    split <;> omega
  have h1 := b i
  have h2 := b j
  have h3 : i.natAbs.log2 + j.natAbs.log2 < 100000000 := h
  have e : bitsLine = 134217728 := by decide
  unfold IntMulOk
  intro z
  rw [Bool.and_eq_true] at z
  have z2 := z.2
  unfold Builtin.Int.intTooBig at z2
  have z3 := of_decide_eq_true z2
  rw [e] at z3
  omega
theorem op_mulA : OpR X (binaryOp .Mult) (rI mulOk fun i j => .int (i * j)) := opI fun _ _ _ _ _ _ _ hc q => mul_int q hc.ok
def fdivOk (i j : Int) : Prop := j ≠ 0 ∧ j.natAbs.log2 < 9000
theorem op_fdivA : OpR X (binaryOp .FloorDiv) (rI fdivOk fun i j => .int (i.fdiv j)) := opI fun _ _ _ _ _ _ _ hc q => floordiv_int hc.1 q (.inl (PyProof.noPylong_of_log2 hc.2))

def oAdd : O2 := fun d e Q => match d, e with
  | .int i, .int j => Q (.val (.int (i + j)))
  | .str x, .str y => x.length + y.length ≤ sizeLine ∧ Q (.val (.str (x ++ y)))
  | .list a, .list b => a.length + b.length ≤ sizeLine ∧ Q (.own 1 (.list (a ++ b)))
  | .tuple a, .tuple b => a.length + b.length ≤ sizeLine ∧ Q (.val (.tuple (a ++ b)))
  | _, _ => False
def rAddA (K : PySem.W.Frag) : R2 := rOr (rI0 fun i j => .int (i + j)) (rOr (fun x y H Q => ∃ i j, x = .str i ∧ y = .str j ∧ i.length + j.length ≤ sizeLine ∧ Q (.str (i ++ j)) H) (rOr rCat (rCatA K)))
theorem op_addA : OpR X (binaryOp .Add) (rAddA X.K) := opOr op_add (opOr op_add_str (opOr op_cat op_catA))
theorem sim_add {K : PySem.W.Frag} : SimOp K (rAddA K) oAdd := by
  intro U B H x y d e Qv Q hB hu hx hy ho k
  unfold oAdd at ho
  split at ho
  · cases hx; cases hy
    exact .inl ⟨_, _, rfl, rfl, k _ _ B H [] (Mv.refl hB) (.val (.int _)) ho⟩
  · cases hx; cases hy
    exact .inr (.inl ⟨_, _, rfl, rfl, ho.1, k _ _ B H [] (Mv.refl hB) (.val (.str _)) ho.2⟩)
  · cases hx with
    | lst a1 a2 =>
      cases hy with
      | lst b1 b2 =>
        refine .inr (.inr (.inl ⟨_, _, _, _, rfl, rfl, hB _ _ a1, hB _ _ b1, by rw [a2.len, b2.len]; exact ho.1, fun p hp => ?_⟩))
        exact k _ _ B _ [p] (Mv.made hB hp _) (.lst hB hp (a2.append b2)) ho.2
  · cases hx with
    | tup a1 a2 =>
      cases hy with
      | tup b1 b2 =>
        refine .inr (.inr (.inr ⟨_, _, _, _, rfl, rfl, sqT_ext hB a1, sqT_ext hB b1, by rw [a2.len, b2.len]; exact ho.1, fun z => ?_, fun z1 z2 => ?_, fun z1 z2 p hp => ?_⟩))
        · subst z
          cases a2
          exact k _ _ B H [] (Mv.refl hB) (.val (.tup b1 b2)) ho.2
        · subst z2
          cases b2
          have q := ho.2
          rw [List.append_nil] at q
          exact k _ _ B H [] (Mv.refl hB) (.val (.tup a1 a2)) q
        · exact k _ _ _ _ [] (Mv.laid hB hu hp _) (.tup hB hp (a2.append b2)) ho.2
  · exact ho.elim
theorem ve_add {a b : Expr} {wa wb : WE} (ha : VE X W a wa) (hb : VE X W b wb) : VE X W (.BinOp a .Add b pos) (wBin oAdd wa wb) := ve_bin op_addA sim_add ha hb

def oInt (C : Int → Int → Prop) (g : Int → Int → Int) : O2 := fun d e Q => match d, e with
  | .int i, .int j => C i j ∧ Q (.val (.int (g i j)))
  | _, _ => False
theorem sim_int {K : PySem.W.Frag} {C : Int → Int → Prop} {g : Int → Int → Int} : SimOp K (rI C fun i j => .int (g i j)) (oInt C g) := by
  intro U B H x y d e Qv Q hB hu hx hy ho k
  unfold oInt at ho
  split at ho
  · cases hx; cases hy
    exact ⟨_, _, rfl, rfl, ho.1, k _ _ B H [] (Mv.refl hB) (.val (.int _)) ho.2⟩
  · exact ho.elim
theorem ve_sub {a b : Expr} {wa wb : WE} (ha : VE X W a wa) (hb : VE X W b wb) : VE X W (.BinOp a .Sub b pos) (wBin (oInt (fun _ _ => True) fun i j => i - j) wa wb) :=
  ve_bin (opI fun i j _ _ _ _ _ _ q => sub_int q) sim_int ha hb
theorem ve_fdiv {a b : Expr} {wa wb : WE} (ha : VE X W a wa) (hb : VE X W b wb) : VE X W (.BinOp a .FloorDiv b pos) (wBin (oInt fdivOk Int.fdiv) wa wb) := ve_bin op_fdivA sim_int ha hb
theorem ve_mod {a b : Expr} {wa wb : WE} (ha : VE X W a wa) (hb : VE X W b wb) : VE X W (.BinOp a .Mod b pos) (wBin (oInt (fun _ j => j ≠ 0) Int.fmod) wa wb) := ve_bin op_modN sim_int ha hb
theorem ve_pow {a b : Expr} {wa wb : WE} (ha : VE X W a wa) (hb : VE X W b wb) : VE X W (.BinOp a .Pow b pos) (wBin (oInt CPow fun i j => i ^ j.toNat) wa wb) := ve_bin op_pow sim_int ha hb
theorem ve_shl {a b : Expr} {wa wb : WE} (ha : VE X W a wa) (hb : VE X W b wb) : VE X W (.BinOp a .LShift b pos) (wBin (oInt CPow fun i j => i * 2 ^ j.toNat) wa wb) := ve_bin op_shl sim_int ha hb
def repS (x : Str) (n : Nat) : Str := ⟨(List.replicate n x.cps.toList).flatten.toArray⟩
theorem repS_eq (x : Str) (n : Nat) : (⟨(List.replicate n x.cps).foldl (· ++ ·) #[]⟩ : Str) = repS x n := by
  unfold repS
  congr 1
  rw [← Array.toList_inj]
  have : ∀ (m : Nat) (a : Array Nat), ((List.replicate m x.cps).foldl (· ++ ·) a).toList = a.toList ++ (List.replicate m x.cps.toList).flatten := by
    intro m
    induction m with
    | zero => intro a; simp
    | succ m ih => intro a; rw [List.replicate_succ, List.foldl_cons, ih, List.replicate_succ]; simp
  rw [this]; simp
theorem repS_len (x : Str) (n : Nat) : (repS x n).length = n * x.length := by
  show ((List.replicate n x.cps.toList).flatten.toArray).size = _
  rw [List.size_toArray]
  induction n with
  | zero => simp
  | succ n ih => rw [List.replicate_succ, List.flatten_cons, List.length_append, ih, Nat.succ_mul, Nat.add_comm, Array.length_toList]; rfl
def rRepS : R2 := fun x y H Q => ∃ (z : Str) (k : Int), x = .str z ∧ y = .int k ∧ 2 ≤ k ∧ k ≤ 1000 ∧ 1 ≤ z.length ∧ z.length ≤ 1000 ∧ Q (.str (repS z k.toNat)) H
theorem op_repS : OpR X (binaryOp .Mult) rRepS := by
  intro pins s σ H x y v u Q I rx ry h
  obtain ⟨z, k, rfl, rfl, k1, k2, z1, z2, q⟩ := h
  obtain ⟨t, rfl⟩ := rx
  obtain ⟨t', rfl⟩ := ry
  have hm : z.length * k.toNat ≤ 1000 * 1000 := Nat.mul_le_mul z2 (by omega)
  refine P.mul_str (by rw [decide_eq_false (by omega), decide_eq_false (by omega)]; rfl) (fun _ _ => ?_) (fun _ _ => ?_) ?_
  · have : (1000 : Int) ≤ (2 ^ 63 - 1) / k := by
      rw [Int.le_ediv_iff_mul_le (by omega)]; omega
    omega
  · exact decide_eq_false (by have : (1000000 : Nat) ≤ sizeLine := by decide
                              omega)
  · rw [if_neg (by omega), if_neg (by simp; omega), repS_eq]
    refine ⟨?_, ⟨.str (repS z k.toNat), H, I.tok _, ⟨_, rfl⟩, q⟩⟩
    rw [repS_len, Nat.mul_comm]
    have : (1000000 : Nat) ≤ sizeLine := by decide
    omega
def oMul : O2 := fun d e Q => match d, e with
  | .int i, .int j => mulOk i j ∧ Q (.val (.int (i * j)))
  | .str z, .int k => 2 ≤ k ∧ k ≤ 1000 ∧ 1 ≤ z.length ∧ z.length ≤ 1000 ∧ Q (.val (.str (repS z k.toNat)))
  | .list a, .int k => -(2 ^ 63) ≤ k ∧ k < 2 ^ 63 ∧ a.length * k.toNat ≤ sizeLine ∧ Q (.own 1 (.list (List.replicate k.toNat a).flatten))
  | _, _ => False
theorem RpAll.rep {K : PySem.W.Frag} {H : Hp} {xs : List V} {ds : List D} (h : RpAll K H xs ds) : ∀ n, RpAll K H (List.replicate n xs).flatten (List.replicate n ds).flatten
  | 0 => by simp; exact .nil
  | n + 1 => by
    rw [List.replicate_succ, List.replicate_succ, List.flatten_cons, List.flatten_cons]
    exact h.append (RpAll.rep h n)
theorem sim_mul {K : PySem.W.Frag} : SimOp K (rOr (rI mulOk fun i j => .int (i * j)) (rOr rRepS rRep)) oMul := by
  intro U B H x y d e Qv Q hB hu hx hy ho k
  unfold oMul at ho
  split at ho
  · cases hx; cases hy
    exact .inl ⟨_, _, rfl, rfl, ho.1, k _ _ B H [] (Mv.refl hB) (.val (.int _)) ho.2⟩
  · cases hx; cases hy
    obtain ⟨h1, h2, h3, h4, h5⟩ := ho
    exact .inr (.inl ⟨_, _, rfl, rfl, h1, h2, h3, h4, k _ _ B H [] (Mv.refl hB) (.val (.str _)) h5⟩)
  · cases hy
    cases hx with
    | lst a1 a2 =>
      obtain ⟨h1, h2, h3, h4⟩ := ho
      refine .inr (.inr ⟨_, _, _, rfl, rfl, hB _ _ a1, h1, h2, by rw [a2.len]; exact h3, fun p hp => ?_⟩)
      exact k _ _ B _ [p] (Mv.made hB hp _) (.lst hB hp (a2.rep _)) h4
  · exact ho.elim
theorem ve_mul {a b : Expr} {wa wb : WE} (ha : VE X W a wa) (hb : VE X W b wb) : VE X W (.BinOp a .Mult b pos) (wBin oMul wa wb) := ve_bin (opOr op_mulA (opOr op_repS op_rep)) sim_mul ha hb

/-! ### comparisons -/
def oCmp (g : Int → Int → Bool) : O2 := fun d e Q => match d, e with
  | .int i, .int j => Q (.val (.bool (g i j)))
  | _, _ => False
theorem sim_cmp {K : PySem.W.Frag} {g : Int → Int → Bool} : SimOp K (rI0 fun i j => .bl (g i j)) (oCmp g) := by
  intro U B H x y d e Qv Q hB hu hx hy ho k
  unfold oCmp at ho
  split at ho
  · cases hx; cases hy
    exact ⟨_, _, rfl, rfl, k _ _ B H [] (Mv.refl hB) (.val (.bl _)) ho⟩
  · exact ho.elim
theorem ve_lt {a b : Expr} {wa wb : WE} (ha : VE X W a wa) (hb : VE X W b wb) : VE X W (.Compare a [.Lt] [b] pos) (wBin (oCmp fun i j => decide (i < j)) wa wb) := ve_cmp op_lt sim_cmp (nobehind _ (by decide) (by decide)) ha hb
theorem ve_le {a b : Expr} {wa wb : WE} (ha : VE X W a wa) (hb : VE X W b wb) : VE X W (.Compare a [.LtE] [b] pos) (wBin (oCmp fun i j => decide (i ≤ j)) wa wb) := ve_cmp op_le sim_cmp (nobehind _ (by decide) (by decide)) ha hb
theorem ve_gt {a b : Expr} {wa wb : WE} (ha : VE X W a wa) (hb : VE X W b wb) : VE X W (.Compare a [.Gt] [b] pos) (wBin (oCmp fun i j => decide (j < i)) wa wb) := ve_cmp op_gt sim_cmp (nobehind _ (by decide) (by decide)) ha hb
theorem ve_ge {a b : Expr} {wa wb : WE} (ha : VE X W a wa) (hb : VE X W b wb) : VE X W (.Compare a [.GtE] [b] pos) (wBin (oCmp fun i j => decide (j ≤ i)) wa wb) := ve_cmp op_ge sim_cmp (nobehind _ (by decide) (by decide)) ha hb
/-- == may ask it: flat texts, or things of which each text is one of signs -/
def okE : D → D → Prop
  | .str _, .str _ => True
  | .str _, .none => True
  | .none, .str _ => True
  | .str _, .int _ => True
  | .int _, .str _ => True
  | d, e => SeqAt.shaped d = true ∧ SeqAt.shaped e = true
def oEq (b : Bool) : O2 := fun d e Q => okE d e ∧ Q (.val (.bool (PyData.eqv d e == b)))
theorem okE_or {d e : D} (h : okE d e) : (SeqAt.shaped d = true ∧ SeqAt.shaped e = true) ∨ ∀ (K : PySem.W.Frag) (H : Hp) (x y : V), Rp K H x d → Rp K H y e → scal x y = true ∧ decide (x = y) = PyData.eqv d e := by
  unfold okE at h
  split at h
  · refine .inr fun K H x y a b => ?_
    cases a; cases b
    exact ⟨rfl, dec_str⟩
  · refine .inr fun K H x y a b => ?_
    cases a; cases b
    exact ⟨rfl, by simp [PyData.eqv]⟩
  · refine .inr fun K H x y a b => ?_
    cases a; cases b
    exact ⟨rfl, by simp [PyData.eqv]⟩
  · refine .inr fun K H x y a b => ?_
    cases a; cases b
    exact ⟨rfl, by simp [PyData.eqv]⟩
  · refine .inr fun K H x y a b => ?_
    cases a; cases b
    exact ⟨rfl, by simp [PyData.eqv]⟩
  · exact .inl h
theorem sim_eq {K : PySem.W.Frag} : SimOp K (rOr (rEqD K) rEq) (oEq true) := by
  intro U B H x y d e Qv Q hB hu hx hy ho k
  obtain ⟨h, h3⟩ := ho
  rw [show (PyData.eqv d e == true) = PyData.eqv d e by cases PyData.eqv d e <;> rfl] at h3
  rcases okE_or h with ⟨h1, h2⟩ | h1
  · exact .inl ⟨d, e, (dp_ext hB _ _ hx).dp, (dp_ext hB _ _ hy).dp, h1, h2, k _ _ B H [] (Mv.refl hB) (.val (.bl _)) h3⟩
  · obtain ⟨g1, g2⟩ := h1 K B x y hx hy
    refine .inr ⟨g1, k _ _ B H [] (Mv.refl hB) (.val (.bl _)) ?_⟩
    rw [g2]; exact h3
theorem sim_ne {K : PySem.W.Frag} : SimOp K (rOr (rNeD K) rNe) (oEq false) := by
  intro U B H x y d e Qv Q hB hu hx hy ho k
  obtain ⟨h, h3⟩ := ho
  rw [show (PyData.eqv d e == false) = !PyData.eqv d e by cases PyData.eqv d e <;> rfl] at h3
  rcases okE_or h with ⟨h1, h2⟩ | h1
  · exact .inl ⟨d, e, (dp_ext hB _ _ hx).dp, (dp_ext hB _ _ hy).dp, h1, h2, k _ _ B H [] (Mv.refl hB) (.val (.bl _)) h3⟩
  · obtain ⟨g1, g2⟩ := h1 K B x y hx hy
    refine .inr ⟨g1, k _ _ B H [] (Mv.refl hB) (.val (.bl _)) ?_⟩
    rw [g2]; exact h3
theorem ve_eq {a b : Expr} {wa wb : WE} (hu : X.A.units + 64 < cLine) (ha : VE X W a wa) (hb : VE X W b wb) : VE X W (.Compare a [.Eq] [b] pos) (wBin (oEq true) wa wb) := ve_cmp (opOr (op_eqD hu) op_eq) sim_eq (nobehind _ (by decide) (by decide)) ha hb
theorem ve_ne {a b : Expr} {wa wb : WE} (hu : X.A.units + 64 < cLine) (ha : VE X W a wa) (hb : VE X W b wb) : VE X W (.Compare a [.NotEq] [b] pos) (wBin (oEq false) wa wb) := ve_cmp (opOr (op_neD hu) op_ne) sim_ne (nobehind _ (by decide) (by decide)) ha hb
/-- is None -/
def isNon : D → Bool
  | .none => true
  | _ => false
def oIsN (b : Bool) : O2 := fun d e Q => match e with
  | .none => Q (.val (.bool (isNon d == b)))
  | _ => False
theorem rp_non {K : PySem.W.Frag} {H : Hp} {x : V} {d : D} (h : Rp K H x d) : decide (x = .non) = isNon d := by
  cases h <;> rfl
theorem sim_isN {K : PySem.W.Frag} : SimOp K (fun x y H Q => y = .non ∧ Q (.bl (decide (x = .non))) H) (oIsN true) := by
  intro U B H x y d e Qv Q hB hu hx hy ho k
  unfold oIsN at ho
  split at ho
  · cases hy
    refine ⟨rfl, k _ _ B H [] (Mv.refl hB) (.val (.bl _)) ?_⟩
    rw [rp_non hx, show (isNon d) = (isNon d == true) by cases isNon d <;> rfl]
    exact ho
  · exact ho.elim
theorem sim_notN {K : PySem.W.Frag} : SimOp K (fun x y H Q => y = .non ∧ Q (.bl (!decide (x = .non))) H) (oIsN false) := by
  intro U B H x y d e Qv Q hB hu hx hy ho k
  unfold oIsN at ho
  split at ho
  · cases hy
    refine ⟨rfl, k _ _ B H [] (Mv.refl hB) (.val (.bl _)) ?_⟩
    rw [rp_non hx, show (!isNon d) = (isNon d == false) by cases isNon d <;> rfl]
    exact ho
  · exact ho.elim
theorem ve_isN {a b : Expr} {wa wb : WE} (ha : VE X W a wa) (hb : VE X W b wb) : VE X W (.Compare a [.Is] [b] pos) (wBin (oIsN true) wa wb) := ve_cmp op_isN sim_isN (nobehind _ (by decide) (by decide)) ha hb
theorem ve_notN {a b : Expr} {wa wb : WE} (ha : VE X W a wa) (hb : VE X W b wb) : VE X W (.Compare a [.IsNot] [b] pos) (wBin (oIsN false) wa wb) := ve_cmp op_notN sim_notN (nobehind _ (by decide) (by decide)) ha hb
/-- c in a text, c one sign -/
def oInS (b : Bool) : O2 := fun d e Q => match d, e with
  | .str ⟨⟨[c]⟩⟩, .str z => Q (.val (.bool (decide (c ∈ z.cps.toList) == b)))
  | _, _ => False
theorem sim_inS {K : PySem.W.Frag} : SimOp K (fun x y H Q => ∃ (c : Nat) (z : Str), x = .str ⟨#[c]⟩ ∧ y = .str z ∧ Q (.bl (decide (c ∈ z.cps.toList))) H) (oInS true) := by
  intro U B H x y d e Qv Q hB hu hx hy ho k
  unfold oInS at ho
  split at ho
  · cases hx; cases hy
    refine ⟨_, _, rfl, rfl, k _ _ B H [] (Mv.refl hB) (.val (.bl _)) ?_⟩
    rw [show ∀ p : Bool, (p == true) = p by decide] at ho
    exact ho
  · exact ho.elim
theorem ve_inS {a b : Expr} {wa wb : WE} (hm : behindInMarks .In b = false) (ha : VE X W a wa) (hb : VE X W b wb) : VE X W (.Compare a [.In] [b] pos) (wBin (oInS true) wa wb) := ve_cmp op_in_sign sim_inS hm ha hb
/-- x in a list or a tuple of flat things -/
def flatD : D → Bool
  | .none => true
  | .bool _ => true
  | .int _ => true
  | .str _ => true
  | _ => false
def seqD : D → Option (List D)
  | .list ds => some ds
  | .tuple ds => some ds
  | _ => none
def oIn (b : Bool) : O2 := fun d e Q => match seqD e with
  | some ds => flatD d = true ∧ ds.all flatD = true ∧ Q (.val (.bool (ds.any (fun z => PyData.eqv z d) == b)))
  | none => False
theorem rp_flat {K : PySem.W.Frag} {H : Hp} {x : V} {d : D} (h : Rp K H x d) (f : flatD d = true) : flatV x = true := by
  cases h <;> first | rfl | (simp [flatD] at f)
theorem rp_eqV {K : PySem.W.Frag} {H : Hp} {x y : V} {d e : D} (h : Rp K H x d) (h' : Rp K H y e) (f : flatD d = true) (f' : flatD e = true) : eqV x y = PyData.eqv d e := by
  cases h <;> cases h' <;> first | rfl | (simp [flatD] at f; done) | (simp [flatD] at f'; done) | (simp [eqV, PyData.eqv]; done) | (simp only [eqV, PyData.eqv]; first | rfl | (exact (Bool.beq_comm ..)) | decide)
end
end VL

set_option Elab.async false
set_option linter.all false
set_option maxRecDepth 100000
set_option maxHeartbeats 2000000
/-! VP: in, subscripts, slices, tests, displays, calls of the value layer. -/
namespace VL
open PySem PySem.Spec PyProof.Rows L2

section
variable {X : Cx} {W : WX} {pos : Pos}
theorem rp_any {K : PySem.W.Frag} {H : Hp} {x : V} {d : D} (h : Rp K H x d) (f : flatD d = true) : ∀ {xs : List V} {ds : List D}, RpAll K H xs ds → ds.all flatD = true → xs.all flatV = true ∧ inV x xs = ds.any (fun z => PyData.eqv z d)
  | _, [], r, _ => by cases r; exact ⟨rfl, rfl⟩
  | _, e :: ds, r, q => by
    cases r with
    | cons a b =>
      rw [List.all_cons, Bool.and_eq_true] at q
      obtain ⟨i1, i2⟩ := rp_any h f b q.2
      refine ⟨by rw [List.all_cons, rp_flat a q.1, i1]; rfl, ?_⟩
      unfold inV at i2 ⊢
      rw [List.any_cons, List.any_cons, i2, rp_eqV a h q.1 f]
theorem sim_in {K : PySem.W.Frag} (neg : Bool) : SimOp K (rIn K neg) (oIn (!neg)) := by
  intro U B H x y d e Qv Q hB hu hx hy ho k
  unfold oIn at ho
  have fin : ∀ {xs : List V} {ds : List D}, RpAll K B xs ds → flatD d = true → ds.all flatD = true → Qv (.val (.bool (ds.any (fun z => PyData.eqv z d) == !neg))) → flatV x = true ∧ xs.all flatV = true ∧ Q (.bl (if neg then !inV x xs else inV x xs)) H := by
    intro xs ds r f q z
    obtain ⟨i1, i2⟩ := rp_any hx f r q
    refine ⟨rp_flat hx f, i1, k _ _ B H [] (Mv.refl hB) (.val (.bl _)) ?_⟩
    rw [i2]
    cases neg with
    | true => rw [show ∀ p : Bool, (p == !true) = (if true then !p else p) by decide] at z; exact z
    | false => rw [show ∀ p : Bool, (p == !false) = (if false then !p else p) by decide] at z; exact z
  cases e with
  | list ds =>
    obtain ⟨h1, h2, h3⟩ := (show flatD d = true ∧ ds.all flatD = true ∧ _ from ho)
    cases hy with
    | lst a b => exact ⟨_, _, rfl, .inl (.inl (.inl (hB _ _ a))), fin b h1 h2 h3⟩
  | tuple ds =>
    obtain ⟨h1, h2, h3⟩ := (show flatD d = true ∧ ds.all flatD = true ∧ _ from ho)
    cases hy with
    | tup a b => exact ⟨_, _, rfl, .inr (sqT_ext hB a), fin b h1 h2 h3⟩
  | _ => exact ho.elim
theorem ve_in {a b : Expr} {wa wb : WE} (hm : behindInMarks .In b = false) (ha : VE X W a wa) (hb : VE X W b wb) : VE X W (.Compare a [.In] [b] pos) (wBin (oIn true) wa wb) := ve_cmp op_in_seq (sim_in false) hm ha hb
theorem ve_notIn {a b : Expr} {wa wb : WE} (hm : behindInMarks .NotIn b = false) (ha : VE X W a wa) (hb : VE X W b wb) : VE X W (.Compare a [.NotIn] [b] pos) (wBin (oIn false) wa wb) := ve_cmp op_notIn_seq (sim_in true) hm ha hb

/-! ### subscripts -/
def oIx : O2 := fun d e Q => match d, e with
  | .list ds, .int i => (match atI ds i with | some v => Q (.val v) | none => False)
  | .tuple ds, .int i => (match atI ds i with | some v => Q (.val v) | none => False)
  | .str z, .int i => z.length ≤ sizeLine ∧ (match atI z.cps.toList i with | some c => Q (.val (.str ⟨#[c]⟩)) | none => False)
  | _, _ => False
theorem atI_rp {K : PySem.W.Frag} {H : Hp} {xs : List V} {ds : List D} {i : Int} {d : D} (h : RpAll K H xs ds) (e : atI ds i = some d) : ∃ x, atI xs i = some x ∧ Rp K H x d := by
  unfold atI at e ⊢
  rw [h.len]
  cases q : ixN ds.length i with
  | none => rw [q] at e; cases e
  | some j =>
    rw [q] at e
    exact h.getD e
theorem sim_ix {K : PySem.W.Frag} : SimOp K (rIx K) oIx := by
  intro U B H x y d e Qv Q hB hu hx hy ho k
  unfold oIx at ho
  split at ho
  · split at ho
    · rename_i ds i v q
      cases hy
      cases hx with
      | lst a b =>
        obtain ⟨z, e1, r⟩ := atI_rp b q
        exact .inl ⟨_, _, _, _, rfl, rfl, .inl (.inl (hB _ _ a)), e1, k _ _ B H [] (Mv.refl hB) (.val r) ho⟩
    · exact ho.elim
  · split at ho
    · rename_i ds i v q
      cases hy
      cases hx with
      | tup a b =>
        obtain ⟨z, e1, r⟩ := atI_rp b q
        exact .inr (.inl ⟨_, _, _, _, rfl, rfl, sqT_ext hB a, e1, k _ _ B H [] (Mv.refl hB) (.val r) ho⟩)
    · exact ho.elim
  · obtain ⟨h1, ho⟩ := ho
    split at ho
    · rename_i c q
      cases hy; cases hx
      exact .inr (.inr ⟨_, _, _, rfl, rfl, h1, q, k _ _ B H [] (Mv.refl hB) (.val (.str _)) ho⟩)
    · exact ho.elim
  · exact ho.elim
theorem ve_ix {a b : Expr} {wa wb : WE} (hs : PlainIx b) (ha : VE X W a wa) (hb : VE X W b wb) : VE X W (.Subscript a b pos) (wBin oIx wa wb) := by
  obtain ⟨ta, pa, sa⟩ := ha.ex
  obtain ⟨tb, pb, sb⟩ := hb.ex
  exact ⟨_, pe_ix ix_seq pa pb hs, sim_op sim_ix sa sb⟩

/-! ### slices -/
abbrev WO := Sts → (Option Int → Prop) → EX → Prop
def SimO (K : PySem.W.Frag) (W : WX) (t : L2.TO) (w : WO) : Prop := ∀ U0 B0 H0 U ρ σ B H As (Qv : Option Int → Prop) (Ev : EX) (Q : Option Int → Hp → Prop), StOk K U0 B0 H0 U ρ σ B H As → w ρ Qv Ev →
  (∀ b B' H', Mv U B H B' H' → Qv b → Q b H') → (∀ c B' H', Mv U B H B' H' → Ev c → W c none σ H') → t σ H Q
structure VO (X : Cx) (W : WX) (e : Option Expr) (w : WO) : Prop where
  ex : ∃ t, PO X e t ∧ SimO X.K W t w
def wNoP : WO := fun _ Q _ => Q none
def wPart (w : WE) : WO := fun ρ Q E => dOf w ρ (fun d => match d with | .int i => Q (some i) | _ => False) E
theorem vo_none : VO X W none wNoP := ⟨_, po_none, fun _ _ _ _ _ _ B H _ _ _ _ x hw k _ => k none B H (Mv.refl x.ext) hw⟩
theorem vo_some {e : Expr} {w : WE} (h : VE X W e w) : VO X W (some e) (wPart w) := by
  obtain ⟨t, p, s⟩ := h.ex
  refine ⟨_, po_some p, fun U0 B0 H0 U ρ σ B H As Qv Ev Q x hw k e => ?_⟩
  refine s.dat x hw (fun d v B' H' m r q => ?_) e
  cases d with
  | int i => cases r; exact ⟨i, rfl, k _ B' H' m q⟩
  | _ => exact q.elim
def cutD (xs : List D) (lo hi : Option Int) : List D := (xs.drop (HT.sIx xs.length 0 lo)).take (HT.sIx xs.length xs.length hi - HT.sIx xs.length 0 lo)
abbrev O3 := D → Option Int → Option Int → (Sl → Prop) → Prop
def oSl : O3 := fun d lo hi Q => match d with
  | .list ds => Q (.own 1 (.list (cutD ds lo hi)))
  | .tuple ds => Q (.val (.tuple (cutD ds lo hi)))
  | .str z => z.length ≤ sizeLine ∧ Q (.val (.str (cutS z lo hi)))
  | _ => False
def wSl (wa : WE) (wl wh : WO) : WE := fun ρ Q E => dOf wa ρ (fun d => wl ρ (fun lo => wh ρ (fun hi => oSl d lo hi Q) E) E) E
theorem RpAll.cut {K : PySem.W.Frag} {H : Hp} {xs : List V} {ds : List D} (h : RpAll K H xs ds) (lo hi : Option Int) : RpAll K H (cutV xs lo hi) (cutD ds lo hi) := by
  unfold cutV cutD
  rw [h.len]
  exact (h.drop _).take _
theorem cut_all (xs : List D) (lo hi : Option Int) (h : HT.sIx xs.length 0 lo = 0 ∧ HT.sIx xs.length xs.length hi = xs.length) : cutD xs lo hi = xs := by
  unfold cutD
  rw [h.1, h.2]
  simp
theorem ve_slice {a : Expr} {lo hi : Option Expr} {p2 : Pos} {wa : WE} {wl wh : WO} (ha : VE X W a wa) (hl : VO X W lo wl) (hh : VO X W hi wh) : VE X W (.Subscript a (.Slice lo hi none p2) pos) (wSl wa wl wh) := by
  obtain ⟨ta, pa, sa⟩ := ha.ex
  obtain ⟨tl, pl, sl⟩ := hl.ex
  obtain ⟨th, ph, sh⟩ := hh.ex
  refine ⟨_, pe_slice (SlR.or sl_list (SlR.or sl_tupA sl_str)) pa pl ph, fun U0 B0 H0 U ρ σ B H As Qv Ev Q x hw k e => ?_⟩
  have hu : ∀ u, U = some u → UrnC H u := fun u q => (x.uC u q).1
  refine sa.dat x hw (fun d v B1 H1 m1 r1 q1 => ?_) e
  refine sl _ _ _ _ _ _ _ _ _ _ _ _ (x.step m1) q1 (fun l B2 H2 m2 q2 => ?_) (fun c B' H' m q => e c B' H' (m1.trans' m hu) q)
  have m12 := m1.trans' m2 hu
  refine sh _ _ _ _ _ _ _ _ _ _ _ _ (x.step m12) q2 (fun u B3 H3 m3 q3 => ?_) (fun c B' H' m q => e c B' H' (m12.trans' m hu) q)
  have m13 := m12.trans' m3 hu
  have r3 : Rp X.K B3 v d := dp_ext (m2.eb.trans m3.eb) _ _ r1
  have uN : ∀ u, U = some u → H3 u ≠ none := fun u q => (m13.ur u q (hu u q)).some
  unfold oSl at q3
  cases d with
  | list ds =>
    cases r3 with
    | lst a b =>
      refine .inl ⟨_, _, rfl, .inl (.inl (m3.eh _ _ a)), fun p hp => ?_⟩
      exact k _ _ B3 _ [p] (m13.trans' (Mv.made m3.eh hp _) hu) ((RsOk.lst m3.eh hp (b.cut l u)).back m13 hu) q3
  | tuple ds =>
    cases r3 with
    | tup a b =>
      refine .inr (.inl ⟨_, _, rfl, sqT_ext m3.eh a, fun z => ?_, fun z p hp => ?_⟩)
      · rw [b.len] at z
        have q3 : Qv (.val (.tuple (cutD ds l u))) := q3
        rw [cut_all ds l u z] at q3
        exact k _ _ B3 H3 [] m13 (.val (.tup a b)) q3
      · exact k _ _ _ _ [] (m13.trans' (Mv.laid m3.eh uN hp _) hu) ((RsOk.tup m3.eh hp (b.cut l u)).back m13 hu) q3
  | str z =>
    cases r3
    exact .inr (.inr ⟨_, rfl, q3.1, k _ _ B3 H3 [] m13 (.val (.str _)) q3.2⟩)
  | _ => exact q3.elim

/-! ### tests -/
def wTst (w : WE) : WT := fun ρ Q E => dOf w ρ (fun d => match d with | .bool b => Q b | _ => False) E
theorem sim_tst {K : PySem.W.Frag} {t : TE} {w : WE} (s : SimE K W t w) : SimT K W (tTest t) (wTst w) := by
  intro U0 B0 H0 U ρ σ B H As Qv Ev Q x hw k e
  refine s.dat x hw (fun d v B' H' m r q => ?_) e
  cases d with
  | bool b => cases r; exact ⟨b, rfl, k b B' H' m q⟩
  | _ => exact q.elim
theorem vt_val {e : Expr} {w : WE} (h : VE X W e w) (he : ∀ whole, isTrue e X.env whole = (do let v ← whole; standAt e.pos; holding [v] (truthy v)) := by intro _; rfl) : VT X W e (wTst w) := by
  obtain ⟨t, p, s⟩ := h.ex
  exact ⟨_, pt_val p he, sim_tst s⟩
theorem vt_cmp {op : CmpOp} {r : R2} {o : O2} {a b : Expr} {wa wb : WE} (hr : OpR X (compareOp op) r) (ho : SimOp X.K r o) (hm : behindInMarks op b = false) (ha : VE X W a wa) (hb : VE X W b wb) : VT X W (.Compare a [op] [b] pos) (wTst (wBin o wa wb)) := by
  obtain ⟨ta, pa, sa⟩ := ha.ex
  obtain ⟨tb, pb, sb⟩ := hb.ex
  exact ⟨_, pt_cmpR hr pa pb hm, sim_tst (sim_op ho sa sb)⟩
theorem vt_lt {a b : Expr} {wa wb : WE} (ha : VE X W a wa) (hb : VE X W b wb) : VT X W (.Compare a [.Lt] [b] pos) (wTst (wBin (oCmp fun i j => decide (i < j)) wa wb)) := vt_cmp op_lt sim_cmp (nobehind _ (by decide) (by decide)) ha hb
theorem vt_le {a b : Expr} {wa wb : WE} (ha : VE X W a wa) (hb : VE X W b wb) : VT X W (.Compare a [.LtE] [b] pos) (wTst (wBin (oCmp fun i j => decide (i ≤ j)) wa wb)) := vt_cmp op_le sim_cmp (nobehind _ (by decide) (by decide)) ha hb
theorem vt_gt {a b : Expr} {wa wb : WE} (ha : VE X W a wa) (hb : VE X W b wb) : VT X W (.Compare a [.Gt] [b] pos) (wTst (wBin (oCmp fun i j => decide (j < i)) wa wb)) := vt_cmp op_gt sim_cmp (nobehind _ (by decide) (by decide)) ha hb
theorem vt_ge {a b : Expr} {wa wb : WE} (ha : VE X W a wa) (hb : VE X W b wb) : VT X W (.Compare a [.GtE] [b] pos) (wTst (wBin (oCmp fun i j => decide (j ≤ i)) wa wb)) := vt_cmp op_ge sim_cmp (nobehind _ (by decide) (by decide)) ha hb
theorem vt_eq {a b : Expr} {wa wb : WE} (hu : X.A.units + 64 < cLine) (ha : VE X W a wa) (hb : VE X W b wb) : VT X W (.Compare a [.Eq] [b] pos) (wTst (wBin (oEq true) wa wb)) := vt_cmp (opOr (op_eqD hu) op_eq) sim_eq (nobehind _ (by decide) (by decide)) ha hb
theorem vt_ne {a b : Expr} {wa wb : WE} (hu : X.A.units + 64 < cLine) (ha : VE X W a wa) (hb : VE X W b wb) : VT X W (.Compare a [.NotEq] [b] pos) (wTst (wBin (oEq false) wa wb)) := vt_cmp (opOr (op_neD hu) op_ne) sim_ne (nobehind _ (by decide) (by decide)) ha hb
theorem vt_isN {a b : Expr} {wa wb : WE} (ha : VE X W a wa) (hb : VE X W b wb) : VT X W (.Compare a [.Is] [b] pos) (wTst (wBin (oIsN true) wa wb)) := vt_cmp op_isN sim_isN (nobehind _ (by decide) (by decide)) ha hb
theorem vt_notN {a b : Expr} {wa wb : WE} (ha : VE X W a wa) (hb : VE X W b wb) : VT X W (.Compare a [.IsNot] [b] pos) (wTst (wBin (oIsN false) wa wb)) := vt_cmp op_notN sim_notN (nobehind _ (by decide) (by decide)) ha hb
theorem vt_inS {a b : Expr} {wa wb : WE} (hm : behindInMarks .In b = false) (ha : VE X W a wa) (hb : VE X W b wb) : VT X W (.Compare a [.In] [b] pos) (wTst (wBin (oInS true) wa wb)) := vt_cmp op_in_sign sim_inS hm ha hb
theorem vt_in {a b : Expr} {wa wb : WE} (hm : behindInMarks .In b = false) (ha : VE X W a wa) (hb : VE X W b wb) : VT X W (.Compare a [.In] [b] pos) (wTst (wBin (oIn true) wa wb)) := vt_cmp op_in_seq (sim_in false) hm ha hb
theorem vt_notIn {a b : Expr} {wa wb : WE} (hm : behindInMarks .NotIn b = false) (ha : VE X W a wa) (hb : VE X W b wb) : VT X W (.Compare a [.NotIn] [b] pos) (wTst (wBin (oIn false) wa wb)) := vt_cmp op_notIn_seq (sim_in true) hm ha hb

def wAnd (a b : WT) : WT := fun ρ Q E => a ρ (fun c => if c = true then b ρ Q E else Q false) E
def wOr (a b : WT) : WT := fun ρ Q E => a ρ (fun c => if c = true then Q true else b ρ Q E) E
def wNot (a : WT) : WT := fun ρ Q E => a ρ (fun c => Q (!c)) E
theorem sim_and {K : PySem.W.Frag} {ta tb : TT} {wa wb : WT} (ha : SimT K W ta wa) (hb : SimT K W tb wb) : SimT K W (tAnd ta tb) (wAnd wa wb) := by
  intro U0 B0 H0 U ρ σ B H As Qv Ev Q x hw k e
  have hu : ∀ u, U = some u → UrnC H u := fun u q => (x.uC u q).1
  refine ha _ _ _ _ _ _ _ _ _ _ _ _ x hw (fun c B1 H1 m1 q => ?_) e
  cases c with
  | true => exact hb _ _ _ _ _ _ _ _ _ _ _ _ (x.step m1) (show wb ρ Qv Ev from q) (fun b B' H' m q => k b B' H' (m1.trans' m hu) q) (fun c B' H' m q => e c B' H' (m1.trans' m hu) q)
  | false => exact k false B1 H1 m1 q
theorem sim_or {K : PySem.W.Frag} {ta tb : TT} {wa wb : WT} (ha : SimT K W ta wa) (hb : SimT K W tb wb) : SimT K W (tOr ta tb) (wOr wa wb) := by
  intro U0 B0 H0 U ρ σ B H As Qv Ev Q x hw k e
  have hu : ∀ u, U = some u → UrnC H u := fun u q => (x.uC u q).1
  refine ha _ _ _ _ _ _ _ _ _ _ _ _ x hw (fun c B1 H1 m1 q => ?_) e
  cases c with
  | false => exact hb _ _ _ _ _ _ _ _ _ _ _ _ (x.step m1) (show wb ρ Qv Ev from q) (fun b B' H' m q => k b B' H' (m1.trans' m hu) q) (fun c B' H' m q => e c B' H' (m1.trans' m hu) q)
  | true => exact k true B1 H1 m1 q
theorem sim_not {K : PySem.W.Frag} {ta : TT} {wa : WT} (ha : SimT K W ta wa) : SimT K W (tNot ta) (wNot wa) := by
  intro U0 B0 H0 U ρ σ B H As Qv Ev Q x hw k e
  exact ha _ _ _ _ _ _ _ _ _ _ _ _ x hw (fun c B1 H1 m1 q => k _ B1 H1 m1 q) e
theorem vpw_and1 {a : Expr} {wa : WT} (ha : VT X W a wa) : VPW X W (.BoolOp .And [a] pos) wa := by
  obtain ⟨t, p, s⟩ := ha.ex
  exact ⟨_, pw_and1 p, s⟩
theorem vpw_or1 {a : Expr} {wa : WT} (ha : VT X W a wa) : VPW X W (.BoolOp .Or [a] pos) wa := by
  obtain ⟨t, p, s⟩ := ha.ex
  exact ⟨_, pw_or1 p, s⟩
theorem vpw_and {a b : Expr} {rest : List Expr} {wa wb : WT} (ha : VT X W a wa) (hb : VPW X W (.BoolOp .And (b :: rest) pos) wb) : VPW X W (.BoolOp .And (a :: b :: rest) pos) (wAnd wa wb) := by
  obtain ⟨t, p, s⟩ := ha.ex
  obtain ⟨t', p', s'⟩ := hb.ex
  exact ⟨_, pw_and p p', sim_and s s'⟩
theorem vpw_or {a b : Expr} {rest : List Expr} {wa wb : WT} (ha : VT X W a wa) (hb : VPW X W (.BoolOp .Or (b :: rest) pos) wb) : VPW X W (.BoolOp .Or (a :: b :: rest) pos) (wOr wa wb) := by
  obtain ⟨t, p, s⟩ := ha.ex
  obtain ⟨t', p', s'⟩ := hb.ex
  exact ⟨_, pw_or p p', sim_or s s'⟩
theorem VPW.vt {e : Expr} {w : WT} (h : VPW X W e w) : VT X W e w := by
  obtain ⟨t, p, s⟩ := h.ex
  exact ⟨_, p.pt, s⟩
theorem vt_not {a : Expr} {wa : WT} (ha : VT X W a wa) : VT X W (.UnaryOp .Not a pos) (wNot wa) := by
  obtain ⟨t, p, s⟩ := ha.ex
  exact ⟨_, pt_not p, sim_not s⟩
/-- .. as values -/
def wAndV (wa wb : WE) : WE := fun ρ Q E => dOf wa ρ (fun d => match d with | .bool c => (if c = true then wb ρ Q E else Q (.val (.bool false))) | _ => False) E
def wOrV (wa wb : WE) : WE := fun ρ Q E => dOf wa ρ (fun d => match d with | .bool c => (if c = true then Q (.val (.bool true)) else wb ρ Q E) | _ => False) E
def wNotV (wa : WE) : WE := fun ρ Q E => dOf wa ρ (fun d => match d with | .bool c => Q (.val (.bool (!c))) | _ => False) E
theorem ve_one {op : BoolOp} {a : Expr} {wa : WE} (ha : VE X W a wa) : VE X W (.BoolOp op [a] pos) wa := by
  obtain ⟨t, p, s⟩ := ha.ex
  exact ⟨_, pe_one p, s⟩
theorem ve_and {a b : Expr} {rest : List Expr} {wa wb : WE} (ha : VE X W a wa) (hb : VE X W (.BoolOp .And (b :: rest) pos) wb) : VE X W (.BoolOp .And (a :: b :: rest) pos) (wAndV wa wb) := by
  obtain ⟨ta, pa, sa⟩ := ha.ex
  obtain ⟨tb, pb, sb⟩ := hb.ex
  refine ⟨_, pe_and pa pb, fun U0 B0 H0 U ρ σ B H As Qv Ev Q x hw k e => ?_⟩
  have hu : ∀ u, U = some u → UrnC H u := fun u q => (x.uC u q).1
  refine sa.dat x hw (fun d v B1 H1 m1 r q => ?_) e
  cases d with
  | bool c =>
    cases r
    refine ⟨c, rfl, ?_⟩
    cases c with
    | true => exact sb _ _ _ _ _ _ _ _ _ _ _ _ (x.step m1) (show wb ρ Qv Ev from q) (fun s v B' H' A m r q => k s v B' H' A (m1.trans' m hu) (r.back m1 hu) q) (fun c B' H' m q => e c B' H' (m1.trans' m hu) q)
    | false => exact k _ _ B1 H1 [] m1 (.val (.bl _)) q
  | _ => exact q.elim
theorem ve_or {a b : Expr} {rest : List Expr} {wa wb : WE} (ha : VE X W a wa) (hb : VE X W (.BoolOp .Or (b :: rest) pos) wb) : VE X W (.BoolOp .Or (a :: b :: rest) pos) (wOrV wa wb) := by
  obtain ⟨ta, pa, sa⟩ := ha.ex
  obtain ⟨tb, pb, sb⟩ := hb.ex
  refine ⟨_, pe_or pa pb, fun U0 B0 H0 U ρ σ B H As Qv Ev Q x hw k e => ?_⟩
  have hu : ∀ u, U = some u → UrnC H u := fun u q => (x.uC u q).1
  refine sa.dat x hw (fun d v B1 H1 m1 r q => ?_) e
  cases d with
  | bool c =>
    cases r
    refine ⟨c, rfl, ?_⟩
    cases c with
    | false => exact sb _ _ _ _ _ _ _ _ _ _ _ _ (x.step m1) (show wb ρ Qv Ev from q) (fun s v B' H' A m r q => k s v B' H' A (m1.trans' m hu) (r.back m1 hu) q) (fun c B' H' m q => e c B' H' (m1.trans' m hu) q)
    | true => exact k _ _ B1 H1 [] m1 (.val (.bl _)) q
  | _ => exact q.elim
theorem ve_not {a : Expr} {wa : WE} (ha : VE X W a wa) : VE X W (.UnaryOp .Not a pos) (wNotV wa) := by
  obtain ⟨ta, pa, sa⟩ := ha.ex
  refine ⟨_, pe_not pa, fun U0 B0 H0 U ρ σ B H As Qv Ev Q x hw k e => ?_⟩
  refine sa.dat x hw (fun d v B1 H1 m1 r q => ?_) e
  cases d with
  | bool c => cases r; exact ⟨c, rfl, k _ _ B1 H1 [] m1 (.val (.bl _)) q⟩
  | _ => exact q.elim
def wIfE (t : WT) (wa wb : WE) : WE := fun ρ Q E => t ρ (fun c => if c = true then wa ρ Q E else wb ρ Q E) E
theorem ve_ifE {c a b : Expr} {wc : WT} {wa wb : WE} (hc : VT X W c wc) (ha : VE X W a wa) (hb : VE X W b wb) : VE X W (.IfExp c a b pos) (wIfE wc wa wb) := by
  obtain ⟨tc, pc, sc⟩ := hc.ex
  obtain ⟨ta, pa, sa⟩ := ha.ex
  obtain ⟨tb, pb, sb⟩ := hb.ex
  refine ⟨_, pe_ifExp pc pa pb, fun U0 B0 H0 U ρ σ B H As Qv Ev Q x hw k e => ?_⟩
  have hu : ∀ u, U = some u → UrnC H u := fun u q => (x.uC u q).1
  refine sc _ _ _ _ _ _ _ _ _ _ _ _ x hw (fun c B1 H1 m1 q => ?_) e
  have kk : ∀ s v B' H' A, Mv U B1 H1 B' H' → RsOk X.K U H1 B' H' v s A → Qv s → Q v H' := fun s v B' H' A m r q => k s v B' H' A (m1.trans' m hu) (r.back m1 hu) q
  have ke : ∀ c B' H', Mv U B1 H1 B' H' → Ev c → W c none σ H' := fun c B' H' m q => e c B' H' (m1.trans' m hu) q
  cases c with
  | true => exact sa _ _ _ _ _ _ _ _ _ _ _ _ (x.step m1) (show wa ρ Qv Ev from q) kk ke
  | false => exact sb _ _ _ _ _ _ _ _ _ _ _ _ (x.step m1) (show wb ρ Qv Ev from q) kk ke
/-- a < b < c -/
def wChain (o o' : O2) (wa wb wc : WE) : WE := fun ρ Q E => dOf wa ρ (fun d => dOf wb ρ (fun e => o d e (fun s => match s with
  | .val (.bool c) => if c = true then dOf wc ρ (fun f => o' e f Q) E else Q (.val (.bool false))
  | _ => False)) E) E
theorem sim_chain {K : PySem.W.Frag} {r r' : R2} {o o' : O2} {ta tb tc : TE} {wa wb wc : WE} (ho : SimOp K r o) (ho' : SimOp K r' o') (ha : SimE K W ta wa) (hb : SimE K W tb wb) (hc : SimE K W tc wc) : SimE K W (tChain r r' ta tb tc) (wChain o o' wa wb wc) := by
  intro U0 B0 H0 U ρ σ B H As Qv Ev Q x hw k e
  have hu : ∀ u, U = some u → UrnC H u := fun u q => (x.uC u q).1
  refine ha.dat x hw (fun d v B1 H1 m1 r1 q1 => ?_) e
  refine hb.dat (x.step m1) q1 (fun d2 v2 B2 H2 m2 r2 q2 => ?_) (fun c B' H' m q => e c B' H' (m1.trans' m hu) q)
  have m12 := m1.trans' m2 hu
  refine ho U B2 H2 v v2 d d2 _ _ m2.eh (fun u q => (m12.ur u q (hu u q)).some) (dp_ext m2.eb _ _ r1) r2 q2 fun s v' B3 H3 A m3 r3 q3 => ?_
  split at q3
  · rename_i c
    have z := r3.dp
    cases z
    have m13 := m12.trans' m3 hu
    refine ⟨c, rfl, ?_⟩
    cases c with
    | false => exact k _ _ B3 H3 [] m13 (.val (.bl _)) q3
    | true =>
      refine hc.dat (x.step m13) (show dOf wc ρ _ Ev from q3) (fun d4 v4 B4 H4 m4 r4 q4 => ?_) (fun c B' H' m q => e c B' H' (m13.trans' m hu) q)
      have m14 := m13.trans' m4 hu
      exact ho' U B4 H4 v2 v4 d2 d4 Qv Q m4.eh (fun u q => (m14.ur u q (hu u q)).some) (dp_ext (m3.eb.trans m4.eb) _ _ r2) r4 q4 fun s v' B' H' A m r q => k s v' B' H' A (m14.trans' m hu) (r.back m14 hu) q
  · exact q3.elim
theorem ve_chain {op op' : CmpOp} {r r' : R2} {o o' : O2} {a b c : Expr} {wa wb wc : WE} (hr : OpR X (compareOp op) r) (hr' : OpR X (compareOp op') r') (ho : SimOp X.K r o) (ho' : SimOp X.K r' o') (ha : VE X W a wa) (hb : VE X W b wb) (hc : VE X W c wc)
    (hm : lastMarks [op, op'] [b, c] = false := by with_unfolding_all rfl) : VE X W (.Compare a [op, op'] [b, c] pos) (wChain o o' wa wb wc) := by
  obtain ⟨ta, pa, sa⟩ := ha.ex
  obtain ⟨tb, pb, sb⟩ := hb.ex
  obtain ⟨tc, pc, sc⟩ := hc.ex
  exact ⟨_, pe_chain hr hr' pa pb pc hm, sim_chain ho ho' sa sb sc⟩
theorem vt_chain {op op' : CmpOp} {r r' : R2} {o o' : O2} {a b c : Expr} {wa wb wc : WE} (hr : OpR X (compareOp op) r) (hr' : OpR X (compareOp op') r') (ho : SimOp X.K r o) (ho' : SimOp X.K r' o') (ha : VE X W a wa) (hb : VE X W b wb) (hc : VE X W c wc)
    (hm : lastMarks [op, op'] [b, c] = false := by with_unfolding_all rfl) : VT X W (.Compare a [op, op'] [b, c] pos) (wTst (wChain o o' wa wb wc)) := by
  obtain ⟨ta, pa, sa⟩ := ha.ex
  obtain ⟨tb, pb, sb⟩ := hb.ex
  obtain ⟨tc, pc, sc⟩ := hc.ex
  exact ⟨_, pt_chain hr hr' pa pb pc hm, sim_tst (sim_chain ho ho' sa sb sc)⟩
/-- -a -/
def wNeg (wa : WE) : WE := fun ρ Q E => dOf wa ρ (fun d => match d with | .int i => Q (.val (.int (-i))) | _ => False) E
theorem ve_neg {a : Expr} {wa : WE} (ha : VE X W a wa) : VE X W (.UnaryOp .USub a pos) (wNeg wa) := by
  obtain ⟨ta, pa, sa⟩ := ha.ex
  refine ⟨_, pe_un un_neg pa, fun U0 B0 H0 U ρ σ B H As Qv Ev Q x hw k e => ?_⟩
  refine sa.dat x hw (fun d v B1 H1 m1 r q => ?_) e
  cases d with
  | int c => cases r; exact ⟨c, rfl, k _ _ B1 H1 [] m1 (.val (.int _)) q⟩
  | _ => exact q.elim

/-! ### arguments, displays, calls -/
def wNil : WA := fun _ Q _ => Q []
def wCons (w : WE) (wr : WA) : WA := fun ρ Q E => w ρ (fun s => wr ρ (fun ss => Q (frzS s :: ss)) E) E
theorem va_nil : VA X W [] wNil := ⟨_, pa_nil, fun _ _ _ _ _ _ B H _ _ _ _ x hw k _ => k [] [] B H (Mv.refl x.ext) .nil hw⟩
/-- a value as an argument -/
def argS : Sl → Prop
  | .no => False
  | _ => True
def wConsA (w : WE) (wr : WA) : WA := fun ρ Q E => w ρ (fun s => argS s ∧ wr ρ (fun ss => Q (frzS s :: ss)) E) E
theorem va_cons {e : Expr} {es : List Expr} {w : WE} {wr : WA} (h : VE X W e w) (hr : VA X W es wr) (hs : starEach (e :: es) X.env = (false, eval e X.env) :: starEach es X.env := by rfl) : VA X W (e :: es) (wConsA w wr) := by
  obtain ⟨t, p, s⟩ := h.ex
  obtain ⟨tr, pr, sr⟩ := hr.ex
  refine ⟨_, pa_cons p pr hs, fun U0 B0 H0 U ρ σ B H As Qv Ev Q x hw k e => ?_⟩
  have hu : ∀ u, U = some u → UrnC H u := fun u q => (x.uC u q).1
  refine s _ _ _ _ _ _ _ _ _ _ _ _ x hw (fun sl v B1 H1 A m1 r1 q1 => ?_) e
  obtain ⟨B2, m2, eb, r2⟩ := r1.frz m1
  refine sr _ _ _ _ _ _ _ _ _ _ _ _ (x.step m2) q1.2 (fun ss vs B3 H3 m3 r3 q3 => ?_) (fun c B' H' m q => e c B' H' (m2.trans' m hu) q)
  refine k (frzS sl :: ss) (v :: vs) B3 H3 (m2.trans' m3 hu) ?_ q3
  have ok := r2.ok
  cases sl with
  | no => exact q1.1.elim
  | val d => exact .val (dp_ext m3.eb _ _ r2.dp) r3
  | own n d => exact .val (dp_ext m3.eb _ _ r2.dp) r3
  | urn => obtain ⟨_, u, e1, e2⟩ := ok; cases e2; exact .urn e1 r3
  | raw w => obtain ⟨_, e2⟩ := ok; cases e2; exact .raw r3
  | scr ns => obtain ⟨_, a, e2, h⟩ := ok; cases e2; exact .scr (sqL_ext m3.eb h) r3
/-- plain data alone -/
def dats : List Sl → Option (List D)
  | [] => some []
  | .val d :: r => (dats r).map (d :: ·)
  | _ :: _ => none
theorem ArOk.dats {K : PySem.W.Frag} {U : Option Addr} {B : Hp} {vs : List V} {ss : List Sl} (x : ArOk K U B vs ss) : ∀ {ds}, dats ss = some ds → RpAll K B vs ds := by
  induction x with
  | nil => intro ds e; cases e; exact .nil
  | val a _ ih =>
    rename_i v d vs ss _
    intro ds e
    unfold VL.dats at e
    cases q : VL.dats ss with
    | none => rw [q] at e; cases e
    | some r => rw [q] at e; cases e; exact .cons a (ih q)
  | urn _ _ _ => intro ds e; cases e
  | raw _ _ => intro ds e; cases e
  | scr _ _ _ => intro ds e; cases e
def wDats (w : WA) (ρ : Sts) (Q : List D → Prop) (E : EX) : Prop := w ρ (fun ss => match dats ss with | some ds => Q ds | none => False) E
theorem SimA.dats {K : PySem.W.Frag} {t : TA} {w : WA} (h : SimA K W t w) {U0 B0 H0 U ρ σ B H As} {Qv : List D → Prop} {Ev : EX} {Q : List V → Hp → Prop} (x : StOk K U0 B0 H0 U ρ σ B H As) (hw : wDats w ρ Qv Ev)
    (k : ∀ ds vs B' H', Mv U B H B' H' → RpAll K B' vs ds → Qv ds → Q vs H') (e : ∀ c B' H', Mv U B H B' H' → Ev c → W c none σ H') : t σ H Q := by
  refine h _ _ _ _ _ _ _ _ _ _ _ _ x hw (fun ss vs B' H' m r q => ?_) e
  cases z : VL.dats ss with
  | none => rw [z] at q; exact q.elim
  | some ds => rw [z] at q; exact k ds vs B' H' m (r.dats z) q
def wTup (w : WA) : WE := fun ρ Q E => wDats w ρ (fun ds => ds.length ≤ sizeLine ∧ Q (.val (.tuple ds))) E
def wLst (w : WA) : WE := fun ρ Q E => wDats w ρ (fun ds => ds.length ≤ sizeLine ∧ Q (.own 1 (.list ds))) E
theorem ve_tup {es : List Expr} {w : WA} {x1} (h : VA X W es w) : VE X W (.Tuple es x1 pos) (wTup w) := by
  obtain ⟨t, p, s⟩ := h.ex
  refine ⟨_, pe_tup p, fun U0 B0 H0 U ρ σ B H As Qv Ev Q x hw k e => ?_⟩
  have hu : ∀ u, U = some u → UrnC H u := fun u q => (x.uC u q).1
  refine s.dats x hw (fun ds vs B1 H1 m1 r q => ⟨by rw [r.len]; exact q.1, fun p hp => ?_⟩) e
  have m2 := Mv.laid (U := U) m1.eh (fun u z => (m1.ur u z (hu u z)).some) hp (.tup vs)
  exact k _ _ _ _ [] (m1.trans' m2 hu) ((RsOk.tup m1.eh hp r).back m1 hu) q.2
theorem ve_lst {es : List Expr} {w : WA} (h : VA X W es w) : VE X W (.List es pos) (wLst w) := by
  obtain ⟨t, p, s⟩ := h.ex
  refine ⟨_, pe_lst p, fun U0 B0 H0 U ρ σ B H As Qv Ev Q x hw k e => ?_⟩
  have hu : ∀ u, U = some u → UrnC H u := fun u q => (x.uC u q).1
  refine s.dats x hw (fun ds vs B1 H1 m1 r q => ⟨by rw [r.len]; exact q.1, fun p hp => ?_⟩) e
  have m2 := Mv.made (U := U) m1.eh hp (.lst vs)
  exact k _ _ _ _ [p] (m1.trans' m2 hu) ((RsOk.lst m1.eh hp r).back m1 hu) q.2
end
end VL

set_option Elab.async false
set_option linter.all false
set_option maxRecDepth 100000
set_option maxHeartbeats 2000000
/-! VF: statements, targets, defs of the value layer. -/
namespace VL
open PySem PySem.Spec PyProof.Rows L2

/-! ### the state's slots -/
def upA (As : Nat → List Addr) (i : Nat) (A : List Addr) : Nat → List Addr := fun j => if j = i then A else As j
theorem upA_same {As : Nat → List Addr} {i : Nat} {A : List Addr} : upA As i A i = A := if_pos rfl
theorem upA_ne {As : Nat → List Addr} {i j : Nat} {A : List Addr} (h : j ≠ i) : upA As i A j = As j := if_neg h
section
variable {K : PySem.W.Frag} {U0 : Option Addr} {B0 H0 : Hp} {U : Option Addr} {ρ : Sts} {σ : L2.St} {B H B' H' : Hp} {As : Nat → List Addr}
theorem SlOk.in_ {o : Option (Option V)} {s : Sl} {A : List Addr} (h : SlOk K U B H o s A) : ∀ a ∈ A, (∃ xs, H a = some (.lst xs)) ∧ B a = none := by
  cases s with
  | no => intro a m; rw [show A = [] from h] at m; cases m
  | val d => intro a m; rw [h.1] at m; cases m
  | own n d => obtain ⟨v, _, q⟩ := h; exact own_in n d v A q
  | urn => intro a m; rw [h.1] at m; cases m
  | raw v => intro a m; rw [h.1] at m; cases m
  | scr v => intro a m; rw [h.1] at m; cases m
theorem StOk.own_in (x : StOk K U0 B0 H0 U ρ σ B H As) (i : Nat) : ∀ a ∈ As i, (∃ xs, H a = some (.lst xs)) ∧ B a = none := by
  cases q : ρ[i]? with
  | none => intro a m; rw [x.ot i q] at m; cases m
  | some s => exact (x.at_ i s q).in_
theorem StOk.back0 (x : StOk K U0 B0 H0 U ρ σ B H As) {a : Addr} (h : H a = none) : H0 a = none := none_back x.mv x.u0 h
/-- a slot takes a value that has come; s' what is kept of it -/
theorem StOk.set (x : StOk K U0 B0 H0 U ρ σ B H As) (m : Mv U B H B' H') {v : V} {s : Sl} {A : List Addr} (r : RsOk K U H B' H' v s A) (i : Nat) (hi : i < ρ.length) : StOk K U0 B0 H0 U (ρ.set i s) (σ.set i (some v)) B' H' (upA As i A) := by
  have y := x.step m
  have hiσ : i < σ.length := by rw [x.len]; exact hi
  refine ⟨by simp [x.len], y.mv, x.u0, fun j t e => ?_, fun j e => ?_, fun j a ha => ?_, fun j => ?_, fun j k a ha hk => ?_, fun u e j ha => ?_, y.uC⟩
  · by_cases hj : j = i
    · subst hj
      rw [List.getElem?_set_self hi] at e
      cases e
      rw [List.getElem?_set_self hiσ, upA_same]
      exact r.ok
    · rw [List.getElem?_set_ne (Ne.symm hj)] at e
      rw [List.getElem?_set_ne (Ne.symm hj), upA_ne hj]
      exact y.at_ j t e
  · have hj : j ≠ i := fun z => by subst z; rw [List.getElem?_set_self hi] at e; cases e
    rw [List.getElem?_set_ne (Ne.symm hj)] at e
    rw [upA_ne hj]
    exact x.ot j e
  · by_cases hj : j = i
    · subst hj
      rw [upA_same] at ha
      exact x.back0 (r.fr a ha)
    · rw [upA_ne hj] at ha
      exact x.fr j a ha
  · by_cases hj : j = i
    · subst hj; rw [upA_same]; exact r.nd
    · rw [upA_ne hj]; exact x.nd j
  · by_cases hj : j = i
    · by_cases hk' : k = i
      · rw [hj, hk']
      · subst hj
        rw [upA_same] at ha
        rw [upA_ne hk'] at hk
        obtain ⟨⟨xs, q⟩, _⟩ := x.own_in k a hk
        rw [r.fr a ha] at q; cases q
    · by_cases hk' : k = i
      · subst hk'
        rw [upA_same] at hk
        rw [upA_ne hj] at ha
        obtain ⟨⟨xs, q⟩, _⟩ := x.own_in j a ha
        rw [r.fr a hk] at q; cases q
      · rw [upA_ne hj] at ha
        rw [upA_ne hk'] at hk
        exact x.sp j k a ha hk
  · by_cases hj : j = i
    · subst hj
      rw [upA_same] at ha
      exact (x.uC u e).1.some (r.fr u ha)
    · rw [upA_ne hj] at ha
      exact x.uA u e j ha
/-- a slot's own lists go into the base -/
theorem StOk.frz (x : StOk K U0 B0 H0 U ρ σ B H As) (i : Nat) : ∃ B' As', StOk K U0 B0 H0 U (ρ.set i ((ρ[i]?.map frzS).getD .no)) σ B' H As' ∧ Ext B B' := by
  cases q : ρ[i]? with
  | none =>
    have e : ρ.set i ((Option.map frzS none).getD .no) = ρ := List.set_eq_of_length_le (List.getElem?_eq_none_iff.mp q)
    rw [e]
    exact ⟨B, As, x, Ext.refl _⟩
  | some s =>
    have hi : i < ρ.length := (List.getElem?_eq_some_iff.mp q).1
    show ∃ B' As', StOk K U0 B0 H0 U (ρ.set i (frzS s)) σ B' H As' ∧ Ext B B'
    have same : frzS s = s → ∃ B' As', StOk K U0 B0 H0 U (ρ.set i (frzS s)) σ B' H As' ∧ Ext B B' := fun e => by
      have e2 : ρ.set i (frzS s) = ρ := by
        rw [e]
        apply List.ext_getElem?
        intro j
        by_cases hj : j = i
        · subst hj; rw [List.getElem?_set_self hi, q]
        · rw [List.getElem?_set_ne (Ne.symm hj)]
      rw [e2]
      exact ⟨B, As, x, Ext.refl _⟩
    have a := x.at_ i s q
    cases s with
    | own n d =>
      obtain ⟨v, ev, ow⟩ := a
      have eb : Ext B (Bu B H (As i)) := Bu.base x.ext
      have eh : Ext (Bu B H (As i)) H := Bu.ext x.ext
      have off : ∀ j a, j ≠ i → a ∈ As j → Bu B H (As i) a = none := fun j a hj ha => by
        have z : a ∉ As i := fun h => hj (x.sp j i a ha h)
        rw [Bu.out z]
        exact (x.own_in j a ha).2
      refine ⟨Bu B H (As i), upA As i [], ⟨by simp [x.len], ⟨x.mv.eb.trans eb, eh, x.mv.kp, fun a o e => ?_, x.mv.ur⟩, x.u0, fun j t e => ?_, fun j e => ?_, fun j a ha => ?_, fun j => ?_, fun j k a ha hk => ?_, fun u e j ha => ?_, fun u e => ?_⟩, eb⟩
      · by_cases ha : a ∈ As i
        · exact .inr (x.fr i a ha)
        · rw [Bu.out ha] at e
          exact x.mv.nw a o e
      · by_cases hj : j = i
        · subst hj
          rw [List.getElem?_set_self hi] at e
          cases e
          rw [upA_same]
          exact ⟨rfl, v, ev, own_frz eb n d v _ (fun a ha => Bu.in_ ha) ow⟩
        · rw [List.getElem?_set_ne (Ne.symm hj)] at e
          rw [upA_ne hj]
          have z := x.at_ j t e
          cases t with
          | no => exact z
          | val d => obtain ⟨e1, v, e2, h⟩ := z; exact ⟨e1, v, e2, dp_ext eb _ _ h⟩
          | own n' d' =>
            obtain ⟨v', e2, h⟩ := z
            exact ⟨v', e2, own_mv eb n' d' v' _ (fun _ _ _ e => e) (fun a ha => off j a hj ha) h⟩
          | urn => exact z
          | raw v => exact z
          | scr ns => obtain ⟨e1, a, e2, h⟩ := z; exact ⟨e1, a, e2, sqL_ext eb h⟩
      · have hj : j ≠ i := fun z => by subst z; rw [List.getElem?_set_self hi] at e; cases e
        rw [List.getElem?_set_ne (Ne.symm hj)] at e
        rw [upA_ne hj]
        exact x.ot j e
      · by_cases hj : j = i
        · subst hj; rw [upA_same] at ha; cases ha
        · rw [upA_ne hj] at ha; exact x.fr j a ha
      · by_cases hj : j = i
        · subst hj; rw [upA_same]; exact List.nodup_nil
        · rw [upA_ne hj]; exact x.nd j
      · by_cases hj : j = i
        · subst hj; rw [upA_same] at ha; cases ha
        · by_cases hk' : k = i
          · subst hk'; rw [upA_same] at hk; cases hk
          · rw [upA_ne hj] at ha; rw [upA_ne hk'] at hk; exact x.sp j k a ha hk
      · by_cases hj : j = i
        · subst hj; rw [upA_same] at ha; cases ha
        · rw [upA_ne hj] at ha; exact x.uA u e j ha
      · obtain ⟨h1, h2, h3⟩ := x.uC u e
        exact ⟨h1, by rw [Bu.out (x.uA u e i)]; exact h2, h3⟩
    | no => exact same rfl
    | val d => exact same rfl
    | urn => exact same rfl
    | raw v => exact same rfl
    | scr v => exact same rfl
end

section
variable {X : Cx} {W : WX} {pos : Pos}
/-! ### blocks -/
def wNext : WS := fun D ρ => D.nx ρ
def wSeq (a b : WS) : WS := fun D ρ => a { D with nx := b D } ρ
theorem sim_next {K : PySem.W.Frag} : SimS K W tNext wNext := fun U0 B0 H0 U ρ σ B H As Dv Dn x hw kn _ _ _ _ => kn U ρ σ B H As x (Ext.refl _) hw
theorem vss_nil : VSs X W [] wNext := ⟨_, pss_nil, sim_next⟩
theorem vss_cons {st : Stmt} {rest : List Stmt} {a b : WS} (h1 : VS X W st a) (h2 : VSs X W rest b) : VSs X W (st :: rest) (wSeq a b) := by
  obtain ⟨t, p, s⟩ := h1.ex
  obtain ⟨u, q, s2⟩ := h2.ex
  refine ⟨_, pss_cons p q, fun U0 B0 H0 U ρ σ B H As Dv Dn x hw kn kb kc kr ke => ?_⟩
  exact s U0 B0 H0 U ρ σ B H As { Dv with nx := b Dv } { Dn with nx := u Dn } x hw (fun U' ρ' σ' B' H' As' y eb hy => s2 U0 B0 H0 U' ρ' σ' B' H' As' Dv Dn y hy (fun U ρ σ B H As z e => kn U ρ σ B H As z (eb.trans e)) (fun U ρ σ B H As z e => kb U ρ σ B H As z (eb.trans e)) (fun U ρ σ B H As z e => kc U ρ σ B H As z (eb.trans e)) kr ke) kb kc kr ke
theorem vss_one {st : Stmt} {a : WS} (h1 : VS X W st a) : VSs X W [st] a := by
  obtain ⟨t, p, s⟩ := h1.ex
  exact ⟨_, pss_one p, s⟩
theorem vs_pass : VS X W (.Pass pos) wNext := ⟨_, ps_pass, sim_next⟩
def wBreak : WS := fun D ρ => D.bk ρ
def wCont : WS := fun D ρ => D.ct ρ
theorem vs_break : VS X W (.Break pos) wBreak := ⟨_, ps_break, fun U0 B0 H0 U ρ σ B H As Dv Dn x hw _ kb _ _ _ => kb U ρ σ B H As x (Ext.refl _) hw⟩
theorem vs_continue : VS X W (.Continue pos) wCont := ⟨_, ps_continue, fun U0 B0 H0 U ρ σ B H As Dv Dn x hw _ _ kc _ _ => kc U ρ σ B H As x (Ext.refl _) hw⟩
/-- slot i's own lists stand from here on -/
def wFrz (i : Nat) (a : WS) : WS := fun D ρ => a D (ρ.set i ((ρ[i]?.map frzS).getD .no))
theorem vss_frz (i : Nat) {sts : List Stmt} {a : WS} (h : VSs X W sts a) : VSs X W sts (wFrz i a) := by
  obtain ⟨t, p, s⟩ := h.ex
  refine ⟨t, p, fun U0 B0 H0 U ρ σ B H As Dv Dn x hw kn kb kc kr ke => ?_⟩
  obtain ⟨B', As', y, eb⟩ := x.frz i
  exact s U0 B0 H0 U _ σ B' H As' Dv Dn y hw (fun U ρ σ B H As z e => kn U ρ σ B H As z (eb.trans e)) (fun U ρ σ B H As z e => kb U ρ σ B H As z (eb.trans e)) (fun U ρ σ B H As z e => kc U ρ σ B H As z (eb.trans e)) kr ke
/-- what is known of slot i is forgotten -/
def wForget (i : Nat) (a : WS) : WS := fun D ρ => a D (ρ.set i .no)

/-! ### return, if, raise -/
def retS : Sl → Prop
  | .urn => False
  | _ => True
def wRet (w : WE) : WS := fun D ρ => w ρ (fun s => retS s ∧ D.rt s) D.ex
theorem vs_ret {e : Expr} {w : WE} (h : VE X W e w) : VS X W (.Return (some e) pos) (wRet w) := by
  obtain ⟨t, p, s⟩ := h.ex
  refine ⟨_, ps_ret p, fun U0 B0 H0 U ρ σ B H As Dv Dn x hw _ _ _ kr ke => ?_⟩
  refine s U0 B0 H0 U ρ σ B H As _ _ _ x hw (fun sl v B' H' A m r q => ?_) (fun c B' H' m q => ke c U ρ σ B' H' As (x.step m) q)
  have y := x.step m
  cases sl with
  | urn => exact q.1.elim
  | no => exact kr .no v B' H' A y.mv ⟨r.ok, r.nd, fun a ha => x.back0 (r.fr a ha)⟩ q.2
  | val d => exact kr (.val d) v B' H' A y.mv ⟨r.ok, r.nd, fun a ha => x.back0 (r.fr a ha)⟩ q.2
  | own n d => exact kr (.own n d) v B' H' A y.mv ⟨r.ok, r.nd, fun a ha => x.back0 (r.fr a ha)⟩ q.2
  | raw w => exact kr (.raw w) v B' H' A y.mv ⟨r.ok, r.nd, fun a ha => x.back0 (r.fr a ha)⟩ q.2
  | scr w => exact kr (.scr w) v B' H' A y.mv ⟨r.ok, r.nd, fun a ha => x.back0 (r.fr a ha)⟩ q.2
/-- return x, x one's own -/
def wRetO (i : Nat) : WS := fun D ρ => match ρ[i]? with
  | some (.own n d) => D.rt (.own n d)
  | _ => False
theorem vs_retO (i : Nat) {x : Str} {p : Pos} (hN : X.N[i]? = some x := by rfl) (hv : Vis X.env.scope x := by first | exact Or.inl rfl | exact Or.inr (Or.inl rfl) | exact Or.inr (Or.inr rfl)) (hd : (x == ("__debug__" : Str)) = false := by decide) (hcd : (x == ("__classdict__" : Str)) = false := by decide) :
    VS X W (.Return (some (.Name x p)) pos) (wRetO i) := by
  refine ⟨_, ps_ret (pe_var hN hv hd hcd), fun U0 B0 H0 U ρ σ B H As Dv Dn x hw _ _ _ kr ke => ?_⟩
  unfold wRetO at hw
  split at hw
  · rename_i n d q
    obtain ⟨v, ev, ow⟩ := x.at_ i _ q
    exact ⟨v, ev, kr (.own n d) v B H (As i) x.mv ⟨⟨v, rfl, ow⟩, x.nd i, x.fr i⟩ hw⟩
  · exact hw.elim
def wRetN : WS := fun D _ => D.rt (.val .none)
theorem vs_retN : VS X W (.Return none pos) wRetN := ⟨_, ps_retN, fun U0 B0 H0 U ρ σ B H As Dv Dn x hw _ _ _ kr ke => kr (.val .none) .non B H [] x.mv (.val .non) hw⟩
def wIf (c : WT) (a b : WS) : WS := fun D ρ => c ρ (fun z => if z = true then a D ρ else b D ρ) D.ex
theorem vs_if {c : Expr} {sa sb : List Stmt} {wc : WT} {a b : WS} (hc : VT X W c wc) (ha : VSs X W sa a) (hb : VSs X W sb b) : VS X W (.If c sa sb pos) (wIf wc a b) := by
  obtain ⟨tc, pc, sc⟩ := hc.ex
  obtain ⟨ta, pa, sa⟩ := ha.ex
  obtain ⟨tb, pb, sb⟩ := hb.ex
  refine ⟨_, ps_if pc pa pb, fun U0 B0 H0 U ρ σ B H As Dv Dn x hw kn kb kc kr ke => ?_⟩
  refine sc U0 B0 H0 U ρ σ B H As _ _ _ x hw (fun z B' H' m q => ?_) (fun c B' H' m q => ke c U ρ σ B' H' As (x.step m) q)
  cases z with
  | true => exact sa U0 B0 H0 U ρ σ B' H' As Dv Dn (x.step m) (show a Dv ρ from q) (fun U ρ σ B H As z e => kn U ρ σ B H As z (m.eb.trans e)) (fun U ρ σ B H As z e => kb U ρ σ B H As z (m.eb.trans e)) (fun U ρ σ B H As z e => kc U ρ σ B H As z (m.eb.trans e)) kr ke
  | false => exact sb U0 B0 H0 U ρ σ B' H' As Dv Dn (x.step m) (show b Dv ρ from q) (fun U ρ σ B H As z e => kn U ρ σ B H As z (m.eb.trans e)) (fun U ρ σ B H As z e => kb U ρ σ B H As z (m.eb.trans e)) (fun U ρ σ B H As z e => kc U ρ σ B H As z (m.eb.trans e)) kr ke
/-- raise C('..') -/
def wRaise (c : Value) : WS := fun D _ => D.ex c
theorem vs_raise {C : Addr} {e : Expr} (hc : X.calm = true) (tk : Takes X W) (he : PMk X e (fun _ H Q => Q (.ref C) none H)) : VS X W (.Raise (some e) none pos) (wRaise (.ref C)) :=
  ⟨_, ps_raise hc tk he, fun U0 B0 H0 U ρ σ B H As Dv Dn x hw _ _ _ _ ke => ke _ U ρ σ B H As x hw⟩

/-! ### targets -/
theorem StOk.setV {K : PySem.W.Frag} {U0 : Option Addr} {B0 H0 : Hp} {U : Option Addr} {ρ : Sts} {σ : L2.St} {B H : Hp} {As : Nat → List Addr} (x : StOk K U0 B0 H0 U ρ σ B H As) {v : V} {d : D} (r : Rp K B v d) (i : Nat) (hi : i < ρ.length) :
    StOk K U0 B0 H0 U (ρ.set i (.val d)) (σ.set i (some v)) B H (upA As i []) := x.set (Mv.refl x.ext) (.val r) i hi
/-- name = e, one's own lists kept; .. laid into the base -/
def wSet (i : Nat) (w : WE) : WS := fun D ρ => w ρ (fun s => i < ρ.length ∧ D.nx (ρ.set i s)) D.ex
def wSetV (i : Nat) (w : WE) : WS := fun D ρ => w ρ (fun s => i < ρ.length ∧ D.nx (ρ.set i (frzS s))) D.ex
theorem sim_set {K : PySem.W.Frag} {t : TE} {w : WE} {i : Nat} (s : SimE K W t w) : SimS K W (tAsg t (gName i)) (wSet i w) := fun U0 B0 H0 U ρ σ B H As Dv Dn x hw kn _ _ _ ke =>
  s U0 B0 H0 U ρ σ B H As _ _ _ x hw (fun _ _ B' H' _ m r q => kn U _ _ B' H' _ (x.set m r i q.1) m.eb q.2) fun c B' H' m q => ke c U ρ σ B' H' As (x.step m) q
theorem sim_setV {K : PySem.W.Frag} {t : TE} {w : WE} {i : Nat} (s : SimE K W t w) : SimS K W (tAsg t (gName i)) (wSetV i w) := fun U0 B0 H0 U ρ σ B H As Dv Dn x hw kn _ _ _ ke => by
  refine s U0 B0 H0 U ρ σ B H As _ _ _ x hw (fun _ _ B' H' _ m r q => ?_) fun c B' H' m q => ke c U ρ σ B' H' As (x.step m) q
  obtain ⟨B'', m', _, r'⟩ := r.frz m
  exact kn U _ _ B'' H' _ (x.set m' r' i q.1) m'.eb q.2
theorem vs_set {i : Nat} {x : Str} {e : Expr} {w : WE} {pos' : Pos} (hN : X.N.Nodup) (hi : X.N[i]? = some x) (hx : Loc X.env.scope x) (he : VE X W e w) (hs : swapsWith e (some (.Name x pos')) pos.line X.env = pure false := by rfl) (hf : X.fn x = true ∨ X.env.scope.names.lookup x = some .local := by first | exact .inl rfl | exact .inr rfl | assumption) :
    VS X W (.Assign [.Name x pos'] e pos) (wSet i w) := by
  obtain ⟨t, p, s⟩ := he.ex
  exact ⟨_, ps_set hN hi hx p hs hf, sim_set s⟩
theorem vs_setV {i : Nat} {x : Str} {e : Expr} {w : WE} {pos' : Pos} (hN : X.N.Nodup) (hi : X.N[i]? = some x) (hx : Loc X.env.scope x) (he : VE X W e w) (hs : swapsWith e (some (.Name x pos')) pos.line X.env = pure false := by rfl) (hf : X.fn x = true ∨ X.env.scope.names.lookup x = some .local := by first | exact .inl rfl | exact .inr rfl | assumption) :
    VS X W (.Assign [.Name x pos'] e pos) (wSetV i w) := by
  obtain ⟨t, p, s⟩ := he.ex
  exact ⟨_, ps_set hN hi hx p hs hf, sim_setV s⟩

/-- a target that takes plain data -/
abbrev WG := D → Sts → (Sts → Prop) → EX → Prop
abbrev WGs := List D → Sts → (Sts → Prop) → EX → Prop
def SimG (K : PySem.W.Frag) (W : WX) (g : TG) (w : WG) : Prop := ∀ U0 B0 H0 U ρ σ B H As (d : D) (v : V) (Qv : Sts → Prop) (Ev : EX) (Q : L2.St → Hp → Prop), StOk K U0 B0 H0 U ρ σ B H As → Rp K B v d → w d ρ Qv Ev →
  (∀ ρ' σ' B' H' As', StOk K U0 B0 H0 U ρ' σ' B' H' As' → Ext B B' → Qv ρ' → Q σ' H') → (∀ c ρ' σ' B' H' As', StOk K U0 B0 H0 U ρ' σ' B' H' As' → Ev c → W c none σ' H') → g v σ H Q
def SimGs (K : PySem.W.Frag) (W : WX) (g : TGs) (w : WGs) : Prop := ∀ U0 B0 H0 U ρ σ B H As (ds : List D) (vs : List V) (Qv : Sts → Prop) (Ev : EX) (Q : L2.St → Hp → Prop), StOk K U0 B0 H0 U ρ σ B H As → RpAll K B vs ds → w ds ρ Qv Ev →
  (∀ ρ' σ' B' H' As', StOk K U0 B0 H0 U ρ' σ' B' H' As' → Ext B B' → Qv ρ' → Q σ' H') → (∀ c ρ' σ' B' H' As', StOk K U0 B0 H0 U ρ' σ' B' H' As' → Ev c → W c none σ' H') → g vs σ H Q
structure VG (X : Cx) (W : WX) (tg : Expr) (w : WG) : Prop where
  ex : ∃ g, PG X tg g ∧ SimG X.K W g w
structure VGs (X : Cx) (W : WX) (tg : List Expr) (w : WGs) : Prop where
  ex : ∃ g, PGs X tg g ∧ SimGs X.K W g w
def gwSet (i : Nat) : WG := fun d ρ Q _ => i < ρ.length ∧ Q (ρ.set i (.val d))
theorem simg_set {K : PySem.W.Frag} {i : Nat} : SimG K W (gName i) (gwSet i) := fun U0 B0 H0 U ρ σ B H As d v Qv Ev Q x r hw k _ => k _ _ B H _ (x.setV r i hw.1) (Ext.refl _) hw.2
theorem vg_name {i : Nat} {x : Str} (hN : X.N.Nodup) (hi : X.N[i]? = some x) (hx : Loc X.env.scope x) (hf : X.fn x = true ∨ X.env.scope.names.lookup x = some .local := by first | exact .inl rfl | exact .inr rfl | assumption) : VG X W (.Name x pos) (gwSet i) :=
  ⟨_, pg_name hN hi hx hf, simg_set⟩
def gwNil : WGs := fun ds ρ Q _ => match ds with
  | [] => Q ρ
  | _ => False
def gwCons (g : WG) (r : WGs) : WGs := fun ds ρ Q E => match ds with
  | d :: ds => g d ρ (fun ρ' => r ds ρ' Q E) E
  | [] => False
theorem vgs_nil : VGs X W [] gwNil := ⟨_, pgs_nil, fun U0 B0 H0 U ρ σ B H As ds vs Qv Ev Q x r hw k _ => by
  cases ds with
  | nil => cases r; exact ⟨rfl, k _ _ B H _ x (Ext.refl _) hw⟩
  | cons _ _ => exact hw.elim⟩
theorem vgs_cons {e : Expr} {es : List Expr} {g : WG} {r : WGs} (h1 : VG X W e g) (h2 : VGs X W es r)
    (hs : (assignEach (e :: es) X.env).map (·.2) = assign e X.env :: (assignEach es X.env).map (·.2) := by rfl) : VGs X W (e :: es) (gwCons g r) := by
  obtain ⟨t, p, s⟩ := h1.ex
  obtain ⟨u, q, s2⟩ := h2.ex
  refine ⟨_, pgs_cons p q hs, fun U0 B0 H0 U ρ σ B H As ds vs Qv Ev Q x rr hw k ke => ?_⟩
  cases ds with
  | nil => exact hw.elim
  | cons d ds =>
    cases rr with
    | cons a b =>
      refine ⟨_, _, rfl, s U0 B0 H0 U ρ σ B H As d _ _ Ev _ x a hw (fun ρ1 σ1 B1 H1 A1 y eb q => ?_) ke⟩
      exact s2 U0 B0 H0 U ρ1 σ1 B1 H1 A1 ds _ Qv Ev Q y (b.ext eb) q (fun ρ' σ' B' H' As' z eb' q => k ρ' σ' B' H' As' z (eb.trans eb') q) ke
def gwTup (n : Nat) (g : WGs) : WG := fun d ρ Q E => match d with
  | .tuple ds => ds.length = n ∧ g ds ρ Q E
  | _ => False
theorem vg_tup {es : List Expr} {k : Nat} {g : WGs} {n : Nat} (hc : X.calm = true) (h : VGs X W es g)
    (hn : (assignEach es X.env).length = n := by rfl) (hst : (assignEach es X.env).findIdx? (·.1) = none := by rfl) : VG X W (.Tuple es k pos) (gwTup n g) := by
  obtain ⟨t, p, s⟩ := h.ex
  refine ⟨_, pg_tup hc p hn hst, fun U0 B0 H0 U ρ σ B H As d v Qv Ev Q x rr hw k ke => ?_⟩
  unfold gwTup at hw
  split at hw
  · cases rr with
    | tup a b => exact ⟨_, _, rfl, sqT_ext x.ext a, by rw [b.len]; exact hw.1, s U0 B0 H0 U ρ σ B H As _ _ Qv Ev Q x b hw.2 k ke⟩
  · exact hw.elim
def wAsg (w : WE) (g : WG) : WS := fun D ρ => dOf w ρ (fun d => g d ρ D.nx D.ex) D.ex
theorem vs_asg {tg e : Expr} {w : WE} {g : WG} (he : VE X W e w) (hg : VG X W tg g) (hs : swapsWithSole [tg] e pos.line X.env = pure false := by rfl) (hw : swappedStores [tg] e X.env = pure none := by rfl)
    (h1 : (assignEach [tg] X.env).map (·.2) = [assign tg X.env] := by rfl) : VS X W (.Assign [tg] e pos) (wAsg w g) := by
  obtain ⟨t, p, s⟩ := he.ex
  obtain ⟨u, q, s2⟩ := hg.ex
  refine ⟨_, ps_asg p q hs hw h1, fun U0 B0 H0 U ρ σ B H As Dv Dn x hw kn _ _ _ ke => ?_⟩
  refine s.dat x hw (fun d v B' H' m r q => ?_) fun c B' H' m q => ke c U ρ σ B' H' As (x.step m) q
  exact s2 U0 B0 H0 U ρ σ B' H' As d v _ _ _ (x.step m) r q (fun ρ' σ' B'' H'' As' y e q => kn U ρ' σ' B'' H'' As' y (m.eb.trans e) q) fun c ρ' σ' B'' H'' As' y q => ke c U ρ' σ' B'' H'' As' y q
/-- a, b = e, f: two plain names -/
def wPar (i j : Nat) (wa : WA) : WS := fun D ρ => wDats wa ρ (fun ds => match ds with
  | [d, e] => i < ρ.length ∧ j < ρ.length ∧ D.nx ((ρ.set i (.val d)).set j (.val e))
  | _ => False) D.ex
theorem vs_par {i j : Nat} {x y : Str} {a b : Expr} {wa : WA} {px py pt : Pos} {kt k2 pt2} (hc : X.calm = true) (hN : X.N.Nodup) (hi : X.N[i]? = some x) (hj : X.N[j]? = some y) (hij : i ≠ j)
    (hx : X.env.scope.names.lookup x = some .local) (hy : X.env.scope.names.lookup y = some .local) (ha : VA X W [a, b] wa)
    (hw : swappedStores [.Tuple [.Name x px, .Name y py] kt pt] (.Tuple [a, b] k2 pt2) X.env = pure (some [x, y]))
    (hs : swapsWithSole [.Tuple [.Name x px, .Name y py] kt pt] (.Tuple [a, b] k2 pt2) pos.line X.env = pure false := by rfl) :
    VS X W (.Assign [.Tuple [.Name x px, .Name y py] kt pt] (.Tuple [a, b] k2 pt2) pos) (wPar i j wa) := by
  obtain ⟨t, p, s⟩ := ha.ex
  refine ⟨_, ps_par hc hN hi hj hij hx hy p hw hs, fun U0 B0 H0 U ρ σ B H As Dv Dn x hw kn _ _ _ ke => ?_⟩
  refine s.dats x hw (fun ds vs B' H' m r q => ?_) fun c B' H' m q => ke c U ρ σ B' H' As (x.step m) q
  split at q
  · cases r with
    | cons r1 r =>
      cases r with
      | cons r2 r =>
        cases r
        exact ⟨_, _, rfl, kn U _ _ B' H' _ (((x.step m).setV r1 i q.1).setV r2 j (by simpa using q.2.1)) m.eb q.2.2⟩
  · exact q.elim
/-- name += e, ints -/
def wAug (i : Nat) (f : Int → Int → Int) (w : WE) : WS := fun D ρ => match ρ[i]? with
  | some (.val (.int a)) => dOf w ρ (fun d => match d with | .int b => D.nx (ρ.set i (.val (.int (f a b)))) | _ => False) D.ex
  | _ => False
theorem vs_aug {i : Nat} {x : Str} {e : Expr} {w : WE} {op : Operator} {f : Int → Int → Int} {pos' : Pos} (hN : X.N.Nodup) (hi : X.N[i]? = some x) (hx : Loc X.env.scope x) (he : VE X W e w) (ho : PIp X op (ipI f)) (hf : X.fn x = true ∨ X.env.scope.names.lookup x = some .local := by first | exact .inl rfl | exact .inr rfl | assumption) :
    VS X W (.AugAssign (.Name x pos') op e pos) (wAug i f w) := by
  obtain ⟨t, p, s⟩ := he.ex
  refine ⟨_, ps_aug hN hi hx p ho hf, fun U0 B0 H0 U ρ σ B H As Dv Dn x hw kn _ _ _ ke => ?_⟩
  unfold wAug at hw
  split at hw
  · rename_i a q
    have hl : i < ρ.length := (List.getElem?_eq_some_iff.mp q).1
    obtain ⟨_, v, ev, rv⟩ := x.at_ i _ q
    refine ⟨v, ev, s.dat x hw (fun d v2 B' H' m r q => ?_) fun c B' H' m q => ke c U ρ σ B' H' As (x.step m) q⟩
    cases d with
    | int b => cases r; cases rv; exact ⟨_, _, rfl, rfl, kn U _ _ B' H' _ ((x.step m).setV (.int _) i hl) m.eb q⟩
    | _ => exact q.elim
  · exact hw.elim
theorem vs_augAdd {i : Nat} {x : Str} {e : Expr} {w : WE} {pos' : Pos} (hN : X.N.Nodup) (hi : X.N[i]? = some x) (hx : Loc X.env.scope x) (he : VE X W e w) (hf : X.fn x = true ∨ X.env.scope.names.lookup x = some .local := by first | exact .inl rfl | exact .inr rfl | assumption) :
    VS X W (.AugAssign (.Name x pos') .Add e pos) (wAug i (· + ·) w) := vs_aug hN hi hx he ip_add hf
theorem vs_augSub {i : Nat} {x : Str} {e : Expr} {w : WE} {pos' : Pos} (hN : X.N.Nodup) (hi : X.N[i]? = some x) (hx : Loc X.env.scope x) (he : VE X W e w) (hf : X.fn x = true ∨ X.env.scope.names.lookup x = some .local := by first | exact .inl rfl | exact .inr rfl | assumption) :
    VS X W (.AugAssign (.Name x pos') .Sub e pos) (wAug i (· - ·) w) := vs_aug hN hi hx he ip_sub hf
end
end VL

set_option Elab.async false
set_option linter.all false
set_option maxRecDepth 100000
set_option maxHeartbeats 2000000
/-! VC: defs, calls, loops of the value layer. -/
namespace VL
open PySem PySem.Spec PyProof.Rows L2

/-! ### defs -/
abbrev FS := List Sl → (Sl → Prop) → EX → Prop
def spOf (K : PySem.W.Frag) (n : Nat) (F : FS) : Sp := fun vs H Q E => ∃ (U : Option Addr) (B : Hp) (ss : List Sl) (Qv : Sl → Prop) (Ev : EX), Ext B H ∧ (∀ u, U = some u → UrnC H u ∧ B u = none) ∧ ArOk K U B vs ss ∧ ss.length = n ∧ F ss Qv Ev ∧
  (∀ s v B' H' A, Mv U B H B' H' → RsOk K U H B' H' v s A → Qv s → Q v H') ∧ (∀ c B' H', Mv U B H B' H' → Ev c → E c none H')
theorem ArOk.len {K : PySem.W.Frag} {U : Option Addr} {B : Hp} {vs : List V} {ss : List Sl} (x : ArOk K U B vs ss) : vs.length = ss.length := by
  induction x with
  | nil => rfl
  | val _ _ ih => simp [ih]
  | urn _ _ ih => simp [ih]
  | raw _ ih => simp [ih]
  | scr _ _ ih => simp [ih]
theorem ArOk.slot {K : PySem.W.Frag} {U : Option Addr} {B H : Hp} {vs : List V} {ss : List Sl} (x : ArOk K U B vs ss) : ∀ (i : Nat) (s : Sl), ss[i]? = some s → SlOk K U B H (vs[i]?.map some) s [] := by
  induction x with
  | nil => intro i s e; simp at e
  | val a _ ih =>
    intro i s e
    cases i with
    | zero => simp at e; subst e; exact ⟨rfl, _, rfl, a⟩
    | succ i => simpa using ih i s (by simpa using e)
  | urn a _ ih =>
    intro i s e
    cases i with
    | zero => simp at e; subst e; exact ⟨rfl, _, a, rfl⟩
    | succ i => simpa using ih i s (by simpa using e)
  | raw _ ih =>
    intro i s e
    cases i with
    | zero => simp at e; subst e; exact ⟨rfl, rfl⟩
    | succ i => simpa using ih i s (by simpa using e)
  | scr a _ ih =>
    intro i s e
    cases i with
    | zero => simp at e; subst e; exact ⟨rfl, _, rfl, a⟩
    | succ i => simpa using ih i s (by simpa using e)
def rho0 (N : List Str) (ss : List Sl) : Sts := ss ++ List.replicate (N.length - ss.length) .no
/-- a def by its body, at the values' level -/
theorem fn_ok {P : Program} {Wd : World} {K : PySem.W.Frag} {mg : Str → Option Value} {base : Heap} {x qual : Str} {st : Stmt} {f : Addr} {fd : FuncData} {N ps : List Str} {k : Nat} {F : FS} {w : WS} (Fn : FunD K x qual (defArgs st) (defBody st) (defScope st) [] [] f fd) (S : FnScope N ps (defScope st))
    (body : ∀ (cdv : Value) (A : Around) (outer : List Env) (s : Shared) (H : Hp) (E : XK), Room k (A.deeper (envOfC qual (defScope st) s.heap.objs.size f cdv)) → VSs (cxOf (L2.CX P Wd) P Wd K mg base N qual (defScope st) f cdv A outer s H E) (fun cls d _ H => E cls d H) (defBody st) w)
    (sem : ∀ (ss : List Sl) (Qv : Sl → Prop) (Ev : EX), ss.length = ps.length → F ss Qv Ev → w { nx := fun _ => Qv (.val .none), rt := Qv, ex := Ev } (rho0 N ss)) : FnOk P Wd K mg base (L2.CX P Wd) (k + 1) f fd ps (spOf K ps.length F) := by
  have hpl : ps.length ≤ N.length := by have := congrArg List.length S.pre; rw [List.length_take] at this; omega
  refine Fn.ok S (fun vs H Q E h => ?_) (fun cdv A outer s H vs Q E hr h => ?_)
  · obtain ⟨U, B, ss, Qv, Ev, _, _, ar, hl, _⟩ := h
    rw [ar.len, hl]
  · obtain ⟨U, B, ss, Qv, Ev, hB, hU, ar, hl, hF, kq, ke⟩ := h
    obtain ⟨t, p, sim⟩ := (body cdv A outer s H E hr).ex
    refine ⟨t, p, ?_⟩
    have hvl : vs.length = ss.length := ar.len
    have x0 : StOk K U B H U (rho0 N ss) (L2.start N vs) B H (fun _ => []) := by
      refine ⟨?_, Mv.refl hB, fun u e => (hU u e).1, fun i s e => ?_, fun i _ => rfl, fun i a h => (nomatch h), fun _ => List.nodup_nil, fun i j a h => (nomatch h), fun u _ i h => (nomatch h), fun u e => ⟨(hU u e).1, (hU u e).2, .inl e⟩⟩
      · unfold L2.start rho0
        simp [hvl]
      · unfold rho0 at e
        unfold L2.start
        by_cases hi : i < ss.length
        · rw [List.getElem?_append_left hi] at e
          rw [List.getElem?_append_left (by simpa [hvl] using hi), List.getElem?_map]
          exact ar.slot i s e
        · rw [List.getElem?_append_right (by omega), List.getElem?_replicate] at e
          split at e
          · cases e; rfl
          · cases e
    refine sim U B H U (rho0 N ss) (L2.start N vs) B H _ _ _ x0 (sem ss Qv Ev hl hF) (fun U' ρ' σ' B' H' As' y _ q => ?_) (fun _ _ _ _ _ _ _ _ q => q.elim) (fun _ _ _ _ _ _ _ _ q => q.elim) (fun s' v B' H' A' m r q => kq s' v B' H' A' m r q) (fun c U' ρ' σ' B' H' As' y q => ke c B' H' y.mv q)
    exact kq (.val .none) .non B' H' [] y.mv (.val .non) q

/-- a def of the module, with its promise -/
structure Fc (P : Program) (Wd : World) (K : PySem.W.Frag) (mg : Str → Option Value) (base : Heap) (k : Nat) (x : Str) (n : Nat) (F : FS) : Prop where
  ex : ∃ (f : Addr) (fd : FuncData) (ps : List Str), FnOk P Wd K mg base (L2.CX P Wd) k f fd ps (spOf K n F) ∧ mg x = some (.ref f) ∧ PySem.W.keepIn K (.ref f) = true ∧ Binds K fd ps []

section
variable {X : Cx} {W : WX} {pos : Pos}
def wCall (F : FS) (n : Nat) (wa : WA) : WE := fun ρ Q E => wa ρ (fun ss => ss.length = n ∧ F ss Q E) E
theorem ve_call {k n : Nat} {x : Str} {F : FS} {p : Pos} {e : Expr} {es : List Expr} {wa : WA} (C : Fc X.prog X.w X.K X.mg X.base k x n F) (hr : Room k X.A) (hg : Gl X x) (tk : Takes X W) (ha : VA X W (e :: es) wa)
    (hdb : (x == ("__debug__" : Str)) = false := by decide) (he : starEach (e :: es) X.env = (false, eval e X.env) :: starEach es X.env := by rfl) (hpl : (backTo pos (starEach es X.env)).any (·.1) = false := by rfl) :
    VE X W (.Call (.Name x p) (e :: es) [] pos) (wCall F n wa) := by
  obtain ⟨f, fd, ps, G, hm, hk, hb⟩ := C.ex
  obtain ⟨t, pa, sa⟩ := ha.ex
  refine ⟨_, pe_callS G hr hg hm hk hb (fun σ => passAt tk σ) pa hdb he hpl, fun U0 B0 H0 U ρ σ B H As Qv Ev Q x hw kq ke => ?_⟩
  have hu : ∀ u, U = some u → UrnC H u := fun u q => (x.uC u q).1
  refine sa _ _ _ _ _ _ _ _ _ _ _ _ x hw (fun ss vs B1 H1 m1 r1 q1 => ?_) ke
  have y := x.step m1
  exact ⟨U, B1, ss, Qv, Ev, m1.eh, fun u e => ⟨(y.uC u e).1, (y.uC u e).2.1⟩, r1, q1.1, q1.2, fun s v B' H' A m r q => kq s v B' H' A (m1.trans' m hu) (r.back m1 hu) q, fun c B' H' m q => ke c B' H' (m1.trans' m hu) q⟩

/-! ### built-in functions -/
abbrev OC := List Sl → (Sl → Prop) → Prop
def SimC (K : PySem.W.Frag) (r : List V → Hp → VK → Prop) (o : OC) : Prop := ∀ (U : Option Addr) (B H : Hp) (vs : List V) (ss : List Sl) (Qv : Sl → Prop) (Q : VK), Ext B H → (∀ u, U = some u → H u ≠ none) → ArOk K U B vs ss → o ss Qv →
  (∀ s v B' H' A, Mv U B H B' H' → RsOk K U H B' H' v s A → Qv s → Q v H') → r vs H Q
def wB (o : OC) (wa : WA) : WE := fun ρ Q E => wa ρ (fun ss => o ss Q) E
theorem sim_b {K : PySem.W.Frag} {r : List V → Hp → VK → Prop} {o : OC} {t : TA} {wa : WA} (h : SimC K r o) (sa : SimA K W t wa) : SimE K W (tCB r t) (wB o wa) := by
  intro U0 B0 H0 U ρ σ B H As Qv Ev Q x hw k e
  have hu : ∀ u, U = some u → UrnC H u := fun u q => (x.uC u q).1
  refine sa _ _ _ _ _ _ _ _ _ _ _ _ x hw (fun ss vs B1 H1 m1 r1 q1 => ?_) e
  exact h U B1 H1 vs ss Qv Q m1.eh (fun u z => (m1.ur u z (hu u z)).some) r1 q1 fun s v B' H' A m r q => k s v B' H' A (m1.trans' m hu) (r.back m1 hu) q
theorem ve_callB {x : Str} {id : String} {r : List V → Hp → VK → Prop} {o : OC} {p : Pos} {e : Expr} {es : List Expr} {wa : WA} (hc : CallR X (.builtin id) r) (h : SimC X.K r o) (hg : Gl X x) (hm : X.mg x = none) (hv : bootBuiltins x = some (.builtin id)) (ha : VA X W (e :: es) wa) (hn : x ≠ "__name__" := by decide) (hdb : (x == ("__debug__" : Str)) = false := by decide)
    (he : starEach (e :: es) X.env = (false, eval e X.env) :: starEach es X.env := by rfl) (hpl : (backTo pos (starEach es X.env)).any (·.1) = false := by rfl) : VE X W (.Call (.Name x p) (e :: es) [] pos) (wB o wa) := by
  obtain ⟨t, pa, sa⟩ := ha.ex
  exact ⟨_, pe_callB hc hg hm hv pa hn hdb he hpl, sim_b h sa⟩
theorem ve_callTy {x : Str} {T : String} {r : List V → Hp → VK → Prop} {o : OC} {p : Pos} {e : Expr} {es : List Expr} {wa : WA} (hc : CallR X (.type T) r) (h : SimC X.K r o) (hg : Gl X x) (hm : X.mg x = none) (hv : bootBuiltins x = some (.type T)) (ha : VA X W (e :: es) wa) (hn : x ≠ "__name__" := by decide) (hdb : (x == ("__debug__" : Str)) = false := by decide)
    (he : starEach (e :: es) X.env = (false, eval e X.env) :: starEach es X.env := by rfl) (hpl : (backTo pos (starEach es X.env)).any (·.1) = false := by rfl) : VE X W (.Call (.Name x p) (e :: es) [] pos) (wB o wa) := by
  obtain ⟨t, pa, sa⟩ := ha.ex
  exact ⟨_, pe_callTy hc hg hm hv pa hn hdb he hpl, sim_b h sa⟩

def cOr (r r' : List V → Hp → VK → Prop) : List V → Hp → VK → Prop := fun vs H Q => r vs H Q ∨ r' vs H Q
theorem callOr {f : Value} {r r' : List V → Hp → VK → Prop} (h : CallR X f r) (h' : CallR X f r') : CallR X f (cOr r r') := fun pins s σ H xs us Q I r q => by
  rcases q with q | q
  · exact h pins s σ H xs us Q I r q
  · exact h' pins s σ H xs us Q I r q

/-- len -/
def oLen : OC := fun ss Q => match ss with
  | [.val (.list ds)] => Q (.val (.int ds.length))
  | [.val (.tuple ds)] => Q (.val (.int ds.length))
  | [.val (.str z)] => z.length ≤ sizeLine ∧ Q (.val (.int z.length))
  | [.scr ns] => Q (.val (.int ns.length))
  | _ => False
theorem sim_len {K : PySem.W.Frag} : SimC K (cOr (fun xs H Q => ∃ p ys, xs = [.ref p] ∧ (SqL K H p ys ∨ SqT K H p ys) ∧ Q (.int ys.length) H) (fun xs H Q => ∃ z, xs = [.str z] ∧ z.length ≤ sizeLine ∧ Q (.int z.length) H)) oLen := by
  intro U B H vs ss Qv Q hB hu ar ho k
  unfold oLen at ho
  split at ho
  · cases ar with
    | val a r =>
      cases r
      cases a with
      | lst a b => exact .inl ⟨_, _, rfl, .inl (.inl (.inl (hB _ _ a))), k _ _ B H [] (Mv.refl hB) (.val (.int _)) (by rw [b.len]; exact ho)⟩
  · cases ar with
    | val a r =>
      cases r
      cases a with
      | tup a b => exact .inl ⟨_, _, rfl, .inr (sqT_ext hB a), k _ _ B H [] (Mv.refl hB) (.val (.int _)) (by rw [b.len]; exact ho)⟩
  · cases ar with
    | val a r =>
      cases r
      cases a
      exact .inr ⟨_, rfl, ho.1, k _ _ B H [] (Mv.refl hB) (.val (.int _)) ho.2⟩
  · cases ar with
    | scr a r =>
      cases r
      exact .inl ⟨_, _, rfl, .inl (sqL_ext hB a), k _ _ B H [] (Mv.refl hB) (.val (.int _)) (by rw [List.length_map]; exact ho)⟩
  · exact ho.elim
theorem ve_len {p : Pos} {e : Expr} {w : WE} (hg : Gl X "len") (hm : X.mg "len" = none) (h : VE X W e w) (hs : starEach (e :: []) X.env = (false, eval e X.env) :: starEach [] X.env := by rfl) (hpl : (backTo pos (starEach [] X.env)).any (·.1) = false := by rfl) :
    VE X W (.Call (.Name "len" p) [e] [] pos) (wB oLen (wConsA w wNil)) := ve_callB (callOr call_len_seq call_len_str) sim_len hg hm boot_len (va_cons h va_nil hs) (by decide) (by decide) hs hpl
/-- a function of ints -/
def oI1 (g : Int → Int) : OC := fun ss Q => match ss with
  | [.val (.int i)] => Q (.val (.int (g i)))
  | _ => False
theorem sim_i1 {K : PySem.W.Frag} {g : Int → Int} : SimC K (fun xs H Q => ∃ i, xs = [.int i] ∧ Q (.int (g i)) H) (oI1 g) := by
  intro U B H vs ss Qv Q hB hu ar ho k
  unfold oI1 at ho
  split at ho
  · cases ar with
    | val a r => cases r; cases a; exact ⟨_, rfl, k _ _ B H [] (Mv.refl hB) (.val (.int _)) ho⟩
  · exact ho.elim
def oI2 (g : Int → Int → Int) : OC := fun ss Q => match ss with
  | [.val (.int i), .val (.int j)] => Q (.val (.int (g i j)))
  | _ => False
theorem sim_i2 {K : PySem.W.Frag} {g : Int → Int → Int} : SimC K (fun xs H Q => ∃ i j, xs = [.int i, .int j] ∧ Q (.int (g i j)) H) (oI2 g) := by
  intro U B H vs ss Qv Q hB hu ar ho k
  unfold oI2 at ho
  split at ho
  · cases ar with
    | val a r =>
      cases r with
      | val b r => cases r; cases a; cases b; exact ⟨_, _, rfl, k _ _ B H [] (Mv.refl hB) (.val (.int _)) ho⟩
  · exact ho.elim
theorem ve_abs {p : Pos} {e : Expr} {w : WE} (hg : Gl X "abs") (hm : X.mg "abs" = none) (h : VE X W e w) (hs : starEach (e :: []) X.env = (false, eval e X.env) :: starEach [] X.env := by rfl) (hpl : (backTo pos (starEach [] X.env)).any (·.1) = false := by rfl) :
    VE X W (.Call (.Name "abs" p) [e] [] pos) (wB (oI1 fun i => if i < 0 then -i else i) (wConsA w wNil)) := ve_callB call_abs sim_i1 hg hm (by decide +kernel) (va_cons h va_nil hs) (by decide) (by decide) hs hpl
theorem ve_max2 {p : Pos} {e e2 : Expr} {w w2 : WE} (hc : X.calm = true) (hg : Gl X "max") (hm : X.mg "max" = none) (h : VE X W e w) (h2 : VE X W e2 w2) (hs : starEach (e :: [e2]) X.env = (false, eval e X.env) :: starEach [e2] X.env := by rfl) (hs2 : starEach (e2 :: []) X.env = (false, eval e2 X.env) :: starEach [] X.env := by rfl) (hpl : (backTo pos (starEach [e2] X.env)).any (·.1) = false := by rfl) :
    VE X W (.Call (.Name "max" p) [e, e2] [] pos) (wB (oI2 fun i j => if j > i then j else i) (wConsA w (wConsA w2 wNil))) := ve_callB (call_max2 hc) sim_i2 hg hm (by decide +kernel) (va_cons h (va_cons h2 va_nil hs2) hs) (by decide) (by decide) hs hpl
theorem ve_min2 {p : Pos} {e e2 : Expr} {w w2 : WE} (hc : X.calm = true) (hg : Gl X "min") (hm : X.mg "min" = none) (h : VE X W e w) (h2 : VE X W e2 w2) (hs : starEach (e :: [e2]) X.env = (false, eval e X.env) :: starEach [e2] X.env := by rfl) (hs2 : starEach (e2 :: []) X.env = (false, eval e2 X.env) :: starEach [] X.env := by rfl) (hpl : (backTo pos (starEach [e2] X.env)).any (·.1) = false := by rfl) :
    VE X W (.Call (.Name "min" p) [e, e2] [] pos) (wB (oI2 fun i j => if j < i then j else i) (wConsA w (wConsA w2 wNil))) := ve_callB (call_min2 hc) sim_i2 hg hm (by decide +kernel) (va_cons h (va_cons h2 va_nil hs2) hs) (by decide) (by decide) hs hpl
/-- int of an int, a truth, a text -/
def oInt1 : OC := fun ss Q => match ss with
  | [.val (.int i)] => Q (.val (.int i))
  | [.val (.bool b)] => Q (.val (.int (if b then 1 else 0)))
  | [.val (.str a)] => (match PySem.intText? a with | some n => a.length ≤ 640 ∧ Q (.val (.int n)) | none => False)
  | _ => False
theorem sim_int1 {K : PySem.W.Frag} : SimC K (cOr (fun xs H Q => (∃ i, xs = [.int i] ∧ Q (.int i) H) ∨ ∃ k, xs = [.bl k] ∧ Q (.int (if k then 1 else 0)) H) (fun xs H Q => ∃ a n, xs = [.str a] ∧ PySem.intText? a = some n ∧ a.length ≤ 640 ∧ Q (.int n) H)) oInt1 := by
  intro U B H vs ss Qv Q hB hu ar ho k
  unfold oInt1 at ho
  split at ho
  · cases ar with
    | val a r => cases r; cases a; exact .inl (.inl ⟨_, rfl, k _ _ B H [] (Mv.refl hB) (.val (.int _)) ho⟩)
  · cases ar with
    | val a r => cases r; cases a; exact .inl (.inr ⟨_, rfl, k _ _ B H [] (Mv.refl hB) (.val (.int _)) ho⟩)
  · split at ho
    · rename_i n q
      cases ar with
      | val a r => cases r; cases a; exact .inr ⟨_, n, rfl, q, ho.1, k _ _ B H [] (Mv.refl hB) (.val (.int _)) ho.2⟩
    · exact ho.elim
  · exact ho.elim
theorem ve_intOf {p : Pos} {e : Expr} {w : WE} (hg : Gl X "int") (hm : X.mg "int" = none) (h : VE X W e w) (hs : starEach (e :: []) X.env = (false, eval e X.env) :: starEach [] X.env := by rfl) (hpl : (backTo pos (starEach [] X.env)).any (·.1) = false := by rfl) :
    VE X W (.Call (.Name "int" p) [e] [] pos) (wB oInt1 (wConsA w wNil)) := ve_callTy (callOr call_int1 call_int_str) sim_int1 hg hm boot_int (va_cons h va_nil hs) (by decide) (by decide) hs hpl
/-- str of an int -/
def oStr1 : OC := fun ss Q => match ss with
  | [.val (.int i)] => i.natAbs.log2 < 1920 ∧ Q (.val (.str (toString i : String)))
  | _ => False
theorem sim_str1 {K : PySem.W.Frag} : SimC K (fun xs H Q => ∃ i : Int, xs = [.int i] ∧ i.natAbs.log2 < 1920 ∧ Q (.str (toString i : String)) H) oStr1 := by
  intro U B H vs ss Qv Q hB hu ar ho k
  unfold oStr1 at ho
  split at ho
  · cases ar with
    | val a r => cases r; cases a; exact ⟨_, rfl, ho.1, k _ _ B H [] (Mv.refl hB) (.val (.str _)) ho.2⟩
  · exact ho.elim
theorem ve_strOf {p : Pos} {e : Expr} {w : WE} (hg : Gl X "str") (hm : X.mg "str" = none) (h : VE X W e w) (hs : starEach (e :: []) X.env = (false, eval e X.env) :: starEach [] X.env := by rfl) (hpl : (backTo pos (starEach [] X.env)).any (·.1) = false := by rfl) :
    VE X W (.Call (.Name "str" p) [e] [] pos) (wB oStr1 (wConsA w wNil)) := ve_callTy call_str_int sim_str1 hg hm (by decide +kernel) (va_cons h va_nil hs) (by decide) (by decide) hs hpl
/-- all of a list of truths -/
def bools : List D → Option (List Bool)
  | [] => some []
  | .bool b :: r => (bools r).map (b :: ·)
  | _ :: _ => none
def oAll (g : List Bool → Bool) : OC := fun ss Q => match ss with
  | [.val (.list ds)] => (match bools ds with | some bs => Q (.val (.bool (g bs))) | none => False)
  | _ => False
theorem rp_bools {K : PySem.W.Frag} {H : Hp} : ∀ {ds : List D} {xs : List V} {bs : List Bool}, RpAll K H xs ds → bools ds = some bs → xs = bs.map V.bl
  | [], _, _, h, e => by cases h; cases e; rfl
  | d :: ds, _, bs, h, e => by
    cases h with
    | cons a b =>
      cases d with
      | bool c =>
        unfold bools at e
        cases q : bools ds with
        | none => rw [q] at e; cases e
        | some r =>
          rw [q] at e
          cases e
          cases a
          rw [rp_bools b q]
          rfl
      | _ => cases e
theorem sim_all {K : PySem.W.Frag} {g : List Bool → Bool} : SimC K (fun vs H Q => ∃ (a : Addr) (bs : List Bool), vs = [V.ref a] ∧ SqL K H a (bs.map V.bl) ∧ Q (.bl (g bs)) H) (oAll g) := by
  intro U B H vs ss Qv Q hB hu ar ho k
  unfold oAll at ho
  split at ho
  · split at ho
    · rename_i bs q
      cases ar with
      | val a r =>
        cases r
        cases a with
        | lst a b =>
          rw [rp_bools b q] at a
          exact ⟨_, bs, rfl, .inl (.inl (hB _ _ a)), k _ _ B H [] (Mv.refl hB) (.val (.bl _)) ho⟩
    · exact ho.elim
  · exact ho.elim
theorem ve_all {p : Pos} {e : Expr} {w : WE} (hc : X.calm = true) (hg : Gl X "all") (hm : X.mg "all" = none) (h : VE X W e w) (hs : starEach (e :: []) X.env = (false, eval e X.env) :: starEach [] X.env := by rfl) (hpl : (backTo pos (starEach [] X.env)).any (·.1) = false := by rfl) :
    VE X W (.Call (.Name "all" p) [e] [] pos) (wB (oAll fun bs => bs.all id) (wConsA w wNil)) := ve_callB (cr_all hc) sim_all hg hm (by decide +kernel) (va_cons h va_nil hs) (by decide) (by decide) hs hpl
theorem ve_any {p : Pos} {e : Expr} {w : WE} (hc : X.calm = true) (hg : Gl X "any") (hm : X.mg "any" = none) (h : VE X W e w) (hs : starEach (e :: []) X.env = (false, eval e X.env) :: starEach [] X.env := by rfl) (hpl : (backTo pos (starEach [] X.env)).any (·.1) = false := by rfl) :
    VE X W (.Call (.Name "any" p) [e] [] pos) (wB (oAll fun bs => bs.any id) (wConsA w wNil)) := ve_callB (cr_any hc) sim_all hg hm (by decide +kernel) (va_cons h va_nil hs) (by decide) (by decide) hs hpl
/-- list of a list or a tuple: a new one -/
def oList : OC := fun ss Q => match ss with
  | [.val d] => (match seqD d with | some ds => Q (.own 1 (.list ds)) | none => False)
  | _ => False
theorem sim_list {K : PySem.W.Frag} : SimC K (fun xs H Q => ∃ p ys, xs = [.ref p] ∧ (SqL K H p ys ∨ SqT K H p ys) ∧ ∀ l, H l = none → Q (.ref l) (upd H l (.lst ys))) oList := by
  intro U B H vs ss Qv Q hB hu ar ho k
  unfold oList at ho
  split at ho
  · rename_i d
    cases ar with
    | val a r =>
      cases r
      cases d with
      | list ds =>
        cases a with
        | lst a b => exact ⟨_, _, rfl, .inl (.inl (.inl (hB _ _ a))), fun p hp => k _ _ B _ [p] (Mv.made hB hp _) (.lst hB hp b) ho⟩
      | tuple ds =>
        cases a with
        | tup a b => exact ⟨_, _, rfl, .inr (sqT_ext hB a), fun p hp => k _ _ B _ [p] (Mv.made hB hp _) (.lst hB hp b) ho⟩
      | _ => exact ho.elim
  · exact ho.elim
theorem ve_list {p : Pos} {e : Expr} {w : WE} (hg : Gl X "list") (hm : X.mg "list" = none) (h : VE X W e w) (hs : starEach (e :: []) X.env = (false, eval e X.env) :: starEach [] X.env := by rfl) (hpl : (backTo pos (starEach [] X.env)).any (·.1) = false := by rfl) :
    VE X W (.Call (.Name "list" p) [e] [] pos) (wB oList (wConsA w wNil)) := ve_callTy call_list_of sim_list hg hm (by decide +kernel) (va_cons h va_nil hs) (by decide) (by decide) hs hpl
/-- tuple of a list or a tuple -/
def oTuple : OC := fun ss Q => match ss with
  | [.val d] => (match seqD d with | some ds => Q (.val (.tuple ds)) | none => False)
  | _ => False
theorem sim_tuple {K : PySem.W.Frag} : SimC K (fun xs H Q => ∃ p ys, xs = [.ref p] ∧ ((SqL K H p ys ∧ ∀ l, H l = none → Q (.ref l) (upd H l (.tup ys))) ∨ (SqT K H p ys ∧ Q (.ref p) H))) oTuple := by
  intro U B H vs ss Qv Q hB hu ar ho k
  unfold oTuple at ho
  split at ho
  · rename_i d
    cases ar with
    | val a r =>
      cases r
      cases d with
      | list ds =>
        cases a with
        | lst a b => exact ⟨_, _, rfl, .inl ⟨.inl (.inl (hB _ _ a)), fun p hp => k _ _ _ _ [] (Mv.laid hB hu hp _) (.tup hB hp b) ho⟩⟩
      | tuple ds =>
        cases a with
        | tup a b => exact ⟨_, _, rfl, .inr ⟨sqT_ext hB a, k _ _ B H [] (Mv.refl hB) (.val (.tup a b)) ho⟩⟩
      | _ => exact ho.elim
  · exact ho.elim
theorem ve_tuple {p : Pos} {e : Expr} {w : WE} (hg : Gl X "tuple") (hm : X.mg "tuple" = none) (h : VE X W e w) (hs : starEach (e :: []) X.env = (false, eval e X.env) :: starEach [] X.env := by rfl) (hpl : (backTo pos (starEach [] X.env)).any (·.1) = false := by rfl) :
    VE X W (.Call (.Name "tuple" p) [e] [] pos) (wB oTuple (wConsA w wNil)) := ve_callTy call_tuple_of sim_tuple hg hm (by decide +kernel) (va_cons h va_nil hs) (by decide) (by decide) hs hpl
/-- isinstance of plain data, one built-in class -/
def tyD : D → String
  | .none => "NoneType"
  | .bool _ => "bool"
  | .int _ => "int"
  | .str _ => "str"
  | .list _ => "list"
  | .tuple _ => "tuple"
  | .dict _ => "dict"
def oIsi : OC := fun ss Q => match ss with
  | [.val d, .raw (.ty T)] => (match kitB (tyD d) T with | some b => Q (.val (.bool b)) | none => False)
  | _ => False
theorem rp_ty {K : PySem.W.Frag} {H : Hp} {x : V} {d : D} (h : Rp K H x d) : TyX K H x (.type (tyD d)) := by
  cases h with
  | non => exact .base .non
  | bl _ => exact .base (.bl _)
  | int _ => exact .base (.int _)
  | str _ => exact .base (.str _)
  | lst a _ => exact .base (.lst a)
  | tup a _ =>
    rcases a with (a | ⟨o, a⟩) | ⟨o, its, n, e, c, _⟩
    · exact .base (.tup a)
    · exact .fTuple a
    · exact .kTuple e c
theorem sim_isi {K : PySem.W.Frag} : SimC K (rIsi K) oIsi := by
  intro U B H vs ss Qv Q hB hu ar ho k
  unfold oIsi at ho
  split at ho
  · rename_i d T
    split at ho
    · rename_i b q
      cases ar with
      | val a r =>
        cases r with
        | raw r =>
          cases r
          exact ⟨_, _, _, _, b, rfl, .ty T, rp_ty (dp_ext hB _ _ a), kit_ty q, k _ _ B H [] (Mv.refl hB) (.val (.bl _)) ho⟩
    · exact ho.elim
  · exact ho.elim
theorem ve_isi {p : Pos} {e c : Expr} {w wc : WE} (hg : Gl X "isinstance") (hm : X.mg "isinstance" = none) (h : VE X W e w) (h2 : VE X W c wc) (hs : starEach (e :: [c]) X.env = (false, eval e X.env) :: starEach [c] X.env := by rfl) (hs2 : starEach (c :: []) X.env = (false, eval c X.env) :: starEach [] X.env := by rfl) (hpl : (backTo pos (starEach [c] X.env)).any (·.1) = false := by rfl) :
    VE X W (.Call (.Name "isinstance" p) [e, c] [] pos) (wB oIsi (wConsA w (wConsA wc wNil))) := ve_callB call_isi sim_isi hg hm (by decide +kernel) (va_cons h (va_cons h2 va_nil hs2) hs) (by decide) (by decide) hs hpl
end
end VL

set_option Elab.async false
set_option linter.all false
set_option maxRecDepth 100000
set_option maxHeartbeats 2000000
/-! VW: what loops walk; for, while of the value layer. -/
namespace VL
open PySem PySem.Spec PyProof.Rows L2

/-- what is walked yields the data ds, one after another -/
def ItOk (K : PySem.W.Frag) (J : It) (B1 : Hp) (ds : List D) : Prop := ∀ (U : Option Addr) (B H : Hp), Ext B1 B → Ext B H → (∀ u, U = some u → H u ≠ none) → ∀ i,
  (i < ds.length → J.go i H) ∧ (ds.length ≤ i → J.stop i H) ∧ ∀ x H' d, J.yld i H x H' → ds[i]? = some d → ∃ B', Mv U B H B' H' ∧ Rp K B' x d
abbrev WI := Sts → (List D → Prop) → EX → Prop
def SimI (K : PySem.W.Frag) (W : WX) (t : TI) (w : WI) : Prop := ∀ U0 B0 H0 U ρ σ B H As (Qv : List D → Prop) (Ev : EX) (R : It → Hp → Prop), StOk K U0 B0 H0 U ρ σ B H As → w ρ Qv Ev →
  (∀ ds J B' H', Mv U B H B' H' → ItOk K J B' ds → Qv ds → R J H') → (∀ c B' H', Mv U B H B' H' → Ev c → W c none σ H') → t σ H R
structure VI (X : Cx) (W : WX) (tg it : Expr) (w : WI) : Prop where
  ex : ∃ t, PI X tg it t ∧ SimI X.K W t w

/-! ### a list or a tuple -/
def iSeq (K : PySem.W.Frag) (te : TE) : TI := fun σ H R => te σ H fun x H1 => ∃ a, x = .ref a ∧ (((∃ xs, SqL K H1 a xs) ∧ R (Itl K a) H1) ∨ ((∃ xs, SqT K H1 a xs) ∧ R (Itt K a) H1))
theorem pi_seq {X : Cx} {tg l : Expr} {tl : TE} (hl : PE X l tl) : PI X tg l (iSeq X.K tl) := by
  refine ⟨fun pins s σ H R I h => ?_⟩
  refine thn (hl.run pins s σ H _ I h) fun v s1 ⟨x, H1, I1, r1, q1⟩ => ?_
  obtain ⟨a, e, ⟨⟨xs, hq⟩, q⟩ | ⟨⟨xs, hq⟩, q⟩⟩ := q1
  · subst e
    cases r1
    obtain ⟨its, rv, p, hz⟩ := I1.list hq
    refine wpAny_pyIter_list p.isList ?_
    refine ⟨s1.heap.objs.size, [s1.heap.objs.size], _, _, H1, rfl, I1.kept (t' := s1.toks) fun b o e => Heap.get?_push_of_some _ e, turn_list a _, ⟨_, Heap.get?_push_size _ rfl, rfl, rfl⟩, fun b hb => ?_, q⟩
    have e : b = s1.heap.objs.size := by simpa using hb
    subst e
    exact I1.fpOk (Nat.le_refl _) (I1.hok.fresh (Nat.le_refl _))
  · subst e
    cases r1
    obtain ⟨its, rv, p, hz⟩ := I1.tuple hq
    refine wpAny_pyIter_tuple (show s1.heap.IsTuple a its.toArray from p) ?_
    refine ⟨s1.heap.objs.size, [s1.heap.objs.size], _, _, H1, rfl, I1.kept (t' := s1.toks) fun b o e => Heap.get?_push_of_some _ e, turn_tuple a _, ⟨_, Heap.get?_push_size _ rfl, rfl, rfl⟩, fun b hb => ?_, q⟩
    have e : b = s1.heap.objs.size := by simpa using hb
    subst e
    exact I1.fpOk (Nat.le_refl _) (I1.hok.fresh (Nat.le_refl _))
theorem itOk_l {K : PySem.W.Frag} {B1 : Hp} {a : Addr} {xs : List V} {ds : List D} (h : B1 a = some (.lst xs)) (r : RpAll K B1 xs ds) : ItOk K (Itl K a) B1 ds := by
  intro U B H e1 e2 hu i
  have hs : SqL K H a xs := .inl (.inl (e2 _ _ (e1 _ _ h)))
  have hl := r.len
  refine ⟨fun hi => ⟨xs, xs[i]'(by omega), hs, by simp [hl, hi]⟩, fun hi => ⟨xs, hs, by omega⟩, fun x H' d y e => ?_⟩
  obtain ⟨rfl, y⟩ := y
  obtain ⟨x', h1, h2⟩ := r.getD e
  have z := y xs hs
  rw [h1] at z; cases z
  exact ⟨B, Mv.refl e2, dp_ext e1 _ _ h2⟩
theorem itOk_t {K : PySem.W.Frag} {B1 : Hp} {a : Addr} {xs : List V} {ds : List D} (h : SqT K B1 a xs) (r : RpAll K B1 xs ds) : ItOk K (Itt K a) B1 ds := by
  intro U B H e1 e2 hu i
  have hs : SqT K H a xs := sqT_ext (e1.trans e2) h
  have hl := r.len
  refine ⟨fun hi => ⟨xs, xs[i]'(by omega), hs, by simp [hl, hi]⟩, fun hi => ⟨xs, hs, by omega⟩, fun x H' d y e => ?_⟩
  obtain ⟨rfl, y⟩ := y
  obtain ⟨x', h1, h2⟩ := r.getD e
  have z := y xs hs
  rw [h1] at z; cases z
  exact ⟨B, Mv.refl e2, dp_ext e1 _ _ h2⟩
def wiSeq (w : WE) : WI := fun ρ Q E => dOf w ρ (fun d => match seqD d with | some ds => Q ds | none => False) E
section
variable {X : Cx} {W : WX} {pos : Pos}
theorem vi_seq {tg e : Expr} {w : WE} (h : VE X W e w) : VI X W tg e (wiSeq w) := by
  obtain ⟨t, p, s⟩ := h.ex
  refine ⟨_, pi_seq p, fun U0 B0 H0 U ρ σ B H As Qv Ev R x hw k e => ?_⟩
  refine s.dat x hw (fun d v B' H' m r q => ?_) e
  cases d with
  | list ds => cases r with | lst a b => exact ⟨_, rfl, .inl ⟨⟨_, .inl (.inl (m.eh _ _ a))⟩, k ds _ B' H' m (itOk_l a b) q⟩⟩
  | tuple ds => cases r with | tup a b => exact ⟨_, rfl, .inr ⟨⟨_, sqT_ext m.eh a⟩, k ds _ B' H' m (itOk_t a b) q⟩⟩
  | _ => exact q.elim
/-! ### ranges -/
def rng (lo : Int) (n : Nat) : List D := (List.range n).map fun i => .int (lo + (i : Nat))
theorem rng_get {lo : Int} {n i : Nat} {d : D} (h : (rng lo n)[i]? = some d) : i < n ∧ d = .int (lo + (i : Nat)) := by
  unfold rng at h
  rw [List.getElem?_map] at h
  by_cases hi : i < n
  · rw [List.getElem?_range hi] at h; cases h; exact ⟨hi, rfl⟩
  · rw [List.getElem?_eq_none (by simpa using hi)] at h; cases h
theorem rng_len {lo : Int} {n : Nat} : (rng lo n).length = n := by simp [rng]
theorem itOk_r {K : PySem.W.Frag} {B1 : Hp} {lo : Int} {n : Nat} : ItOk K (Itr lo n) B1 (rng lo n) := by
  intro U B H e1 e2 hu i
  rw [rng_len]
  refine ⟨id, id, fun x H' d y e => ?_⟩
  obtain ⟨rfl, rfl⟩ := y
  obtain ⟨_, rfl⟩ := rng_get e
  exact ⟨B, Mv.refl e2, .int _⟩
def smallI (i : Int) : Prop := -(2 ^ 62) ≤ i ∧ i < 2 ^ 62
def wiRng1 (w : WA) : WI := fun ρ Q E => wDats w ρ (fun ds => match ds with | [.int j] => smallI j ∧ Q (rng 0 j.toNat) | _ => False) E
def wiRng2 (w : WA) : WI := fun ρ Q E => wDats w ρ (fun ds => match ds with | [.int i, .int j] => smallI i ∧ smallI j ∧ Q (rng i (j - i).toNat) | _ => False) E
theorem vi_range1 {tg a : Expr} {p : Pos} {w : WE} (hg : Gl X "range") (hm : X.mg "range" = none) (h : VE X W a w) (hs : starEach (a :: []) X.env = (false, eval a X.env) :: starEach [] X.env := by rfl) : VI X W tg (.Call (.Name "range" p) [a] [] pos) (wiRng1 (wConsA w wNil)) := by
  obtain ⟨t, q, s⟩ := (va_cons h va_nil hs).ex
  refine ⟨_, pi_range1 hg hm q hs, fun U0 B0 H0 U ρ σ B H As Qv Ev R x hw k e => ?_⟩
  refine s.dats x hw (fun ds vs B' H' m r q => ?_) e
  split at q
  · cases r with
    | cons a r => cases r; cases a; exact ⟨_, rfl, q.1.1, q.1.2, k _ _ B' H' m itOk_r q.2⟩
  · exact q.elim
theorem vi_range2 {tg a b : Expr} {p : Pos} {w w2 : WE} (hg : Gl X "range") (hm : X.mg "range" = none) (h : VE X W a w) (h2 : VE X W b w2) (hs : starEach (a :: [b]) X.env = (false, eval a X.env) :: starEach [b] X.env := by rfl) (hs2 : starEach (b :: []) X.env = (false, eval b X.env) :: starEach [] X.env := by rfl) :
    VI X W tg (.Call (.Name "range" p) [a, b] [] pos) (wiRng2 (wConsA w (wConsA w2 wNil))) := by
  obtain ⟨t, q, s⟩ := (va_cons h (va_cons h2 va_nil hs2) hs).ex
  refine ⟨_, pi_range2 hg hm q (by rw [hs, hs2]; rfl) hs2, fun U0 B0 H0 U ρ σ B H As Qv Ev R x hw k e => ?_⟩
  refine s.dats x hw (fun ds vs B' H' m r q => ?_) e
  split at q
  · cases r with
    | cons a r =>
      cases r with
      | cons b r => cases r; cases a; cases b; exact ⟨_, _, rfl, ⟨q.1.1, q.1.2, q.2.1.1, q.2.1.2⟩, k _ _ B' H' m itOk_r q.2.2⟩
  · exact q.elim
/-! ### texts -/
theorem itOk_s {K : PySem.W.Frag} {B1 : Hp} {z : Str} : ItOk K (Its z) B1 (z.cps.toList.map fun c => .str ⟨#[c]⟩) := by
  intro U B H e1 e2 hu i
  rw [List.length_map, Array.length_toList]
  refine ⟨id, id, fun x H' d y e => ?_⟩
  obtain ⟨rfl, c, hc, rfl⟩ := y
  rw [List.getElem?_map, Array.getElem?_toList, hc] at e
  cases e
  exact ⟨B, Mv.refl e2, .str _⟩
def wiStr (w : WE) : WI := fun ρ Q E => dOf w ρ (fun d => match d with | .str z => Q (z.cps.toList.map fun c => .str ⟨#[c]⟩) | _ => False) E
theorem vi_str {tg e : Expr} {w : WE} (h : VE X W e w) : VI X W tg e (wiStr w) := by
  obtain ⟨t, p, s⟩ := h.ex
  refine ⟨_, pi_str p, fun U0 B0 H0 U ρ σ B H As Qv Ev R x hw k e => ?_⟩
  refine s.dat x hw (fun d v B' H' m r q => ?_) e
  cases d with
  | str z => cases r; exact ⟨_, rfl, k _ _ B' H' m itOk_s q⟩
  | _ => exact q.elim
/-! ### for, while -/
def wFor (wi : WI) (g : WG) (wb : WS) : WS := fun D ρ => wi ρ (fun ds => ∃ I : Nat → Sts → Prop, I 0 ρ ∧
  (∀ i d ρ', ds[i]? = some d → I i ρ' → g d ρ' (fun ρ'' => wb { D with nx := I (i + 1), ct := I (i + 1), bk := D.nx } ρ'') D.ex) ∧ ∀ ρ', I ds.length ρ' → D.nx ρ') D.ex
theorem vs_for {tg iter : Expr} {body : List Stmt} {wi : WI} {g : WG} {wb : WS} (hp : PassesOwn (model X.prog X.w) X.A X.env X.xe) (hc : X.calm = true) (hi : VI X W tg iter wi) (hg : VG X W tg g) (hb : VSs X W body wb)
    (hs : ∀ x, foldedSetIterable iter X.env x = pure x := by intro _; rfl) : VS X W (.For tg iter body [] pos) (wFor wi g wb) := by
  obtain ⟨ti, pi, si⟩ := hi.ex
  obtain ⟨tg', pg, sg⟩ := hg.ex
  obtain ⟨tb, pb, sb⟩ := hb.ex
  refine ⟨_, ps_for hp hc pi pg pb hs, fun U0 B0 H0 U ρ σ B H As Dv Dn x hw kn kb kc kr ke => ?_⟩
  refine si U0 B0 H0 U ρ σ B H As _ _ _ x hw (fun ds J B1 H1 m1 it q => ?_) fun c B' H' m q => ke c U ρ σ B' H' As (x.step m) q
  obtain ⟨I, i0, turn, fin⟩ := q
  refine ⟨fun i n σ' H' => n = ds.length - i ∧ i ≤ ds.length ∧ ∃ U' ρ' B' As', StOk X.K U0 B0 H0 U' ρ' σ' B' H' As' ∧ Ext B1 B' ∧ I i ρ', ⟨ds.length, by simp, Nat.zero_le _, U, ρ, B1, As, x.step m1, Ext.refl _, i0⟩, ?_⟩
  rintro i n σ2 H2 ⟨rfl, hi, U2, ρ2, B2, As2, y, eb, iv⟩
  have z := it U2 B2 H2 eb y.ext y.uN i
  by_cases hlt : i < ds.length
  · refine .inr ⟨z.1 hlt, fun σ' H' => ∃ U' ρ' B' As', StOk X.K U0 B0 H0 U' ρ' σ' B' H' As' ∧ Ext B1 B' ∧ I (i + 1) ρ', fun σ' H' hN => ⟨ds.length - (i + 1), by omega, rfl, hlt, hN⟩, fun v H3 yy => ?_⟩
    obtain ⟨B3, m3, r3⟩ := z.2.2 v H3 ds[i] yy (by simp [hlt])
    have y3 := y.step m3
    refine sg U0 B0 H0 U2 ρ2 σ2 B3 H3 As2 ds[i] v _ _ _ y3 r3 (turn i ds[i] ρ2 (by simp [hlt]) iv) (fun ρ' σ' B' H' As' y4 e4 q => ?_) fun c ρ' σ' B' H' As' y4 q => ke c U2 ρ' σ' B' H' As' y4 q
    have e14 : Ext B1 B' := (eb.trans m3.eb).trans e4
    have eB4 : Ext B B' := m1.eb.trans e14
    exact sb U0 B0 H0 U2 ρ' σ' B' H' As' { Dv with nx := I (i + 1), ct := I (i + 1), bk := Dv.nx } { Dn with nx := _, ct := _, bk := Dn.nx } y4 q
      (fun U ρ σ B H As w e iv => ⟨U, ρ, B, As, w, e14.trans e, iv⟩) (fun U ρ σ B H As w e q => kn U ρ σ B H As w (eB4.trans e) q) (fun U ρ σ B H As w e iv => ⟨U, ρ, B, As, w, e14.trans e, iv⟩) kr ke
  · have e : i = ds.length := by omega
    subst e
    exact .inl ⟨z.2.1 (Nat.le_refl _), kn U2 ρ2 σ2 B2 H2 As2 y (m1.eb.trans eb) (fin ρ2 iv)⟩
def wWhile (c : WT) (wb : WS) : WS := fun D ρ => ∃ I : Nat → Sts → Prop, (∃ m, I m ρ) ∧ ∀ m ρ', I m ρ' → c ρ' (fun b => if b = true then wb { D with nx := fun ρ'' => ∃ m', m' < m ∧ I m' ρ'', ct := fun ρ'' => ∃ m', m' < m ∧ I m' ρ'', bk := D.nx } ρ' else D.nx ρ') D.ex
theorem vs_while {c : Expr} {body : List Stmt} {wc : WT} {wb : WS} (hp : PassesOwn (model X.prog X.w) X.A X.env X.xe) (hc : VT X W c wc) (hb : VSs X W body wb) : VS X W (.While c body [] pos) (wWhile wc wb) := by
  obtain ⟨tc, pc, sc⟩ := hc.ex
  obtain ⟨tb, pb, sb⟩ := hb.ex
  refine ⟨_, ps_while hp pc pb, fun U0 B0 H0 U ρ σ B H As Dv Dn x hw kn kb kc kr ke => ?_⟩
  obtain ⟨I, ⟨m0, i0⟩, turn⟩ := hw
  refine ⟨fun n σ' H' => ∃ U' ρ' B' As', StOk X.K U0 B0 H0 U' ρ' σ' B' H' As' ∧ Ext B B' ∧ I n ρ', ⟨m0, U, ρ, B, As, x, Ext.refl _, i0⟩, ?_⟩
  rintro n σ2 H2 ⟨U2, ρ2, B2, As2, y, eb, iv⟩
  refine sc U0 B0 H0 U2 ρ2 σ2 B2 H2 As2 _ _ _ y (turn n ρ2 iv) (fun b B3 H3 m3 q => ?_) fun c B' H' m q => ke c U2 ρ2 σ2 B' H' As2 (y.step m) q
  have y3 := y.step m3
  have e3 : Ext B B3 := eb.trans m3.eb
  cases b with
  | false => exact kn U2 ρ2 σ2 B3 H3 As2 y3 e3 q
  | true =>
    refine ⟨fun σ' H' => ∃ m', m' < n ∧ ∃ U' ρ' B' As', StOk X.K U0 B0 H0 U' ρ' σ' B' H' As' ∧ Ext B B' ∧ I m' ρ', fun σ' H' h => h, ?_⟩
    exact sb U0 B0 H0 U2 ρ2 σ2 B3 H3 As2 { Dv with nx := fun ρ'' => ∃ m', m' < n ∧ I m' ρ'', ct := fun ρ'' => ∃ m', m' < n ∧ I m' ρ'', bk := Dv.nx } { Dn with nx := _, ct := _, bk := Dn.nx } y3 q
      (fun U ρ σ B H As w e ⟨m', hm, iv⟩ => ⟨m', hm, U, ρ, B, As, w, e3.trans e, iv⟩) (fun U ρ σ B H As w e q => kn U ρ σ B H As w (e3.trans e) q) (fun U ρ σ B H As w e ⟨m', hm, iv⟩ => ⟨m', hm, U, ρ, B, As, w, e3.trans e, iv⟩) kr ke
end
end VL

set_option Elab.async false
set_option linter.all false
set_option maxRecDepth 100000
set_option maxHeartbeats 2000000
/-! VQ: comprehensions of the value layer. -/
namespace VL
open PySem PySem.Spec PyProof.Rows L2

/-! ### the readings that a value reading has at the least -/
def tOf (K : PySem.W.Frag) (W : WX) (w : WE) : TE := fun σ H Q => ∃ U0 B0 H0 U ρ B As, ∃ (Qv : Sl → Prop) (Ev : EX), StOk K U0 B0 H0 U ρ σ B H As ∧ w ρ Qv Ev ∧
  (∀ s v B' H' A, Mv U B H B' H' → RsOk K U H B' H' v s A → Qv s → Q v H') ∧ ∀ c B' H', Mv U B H B' H' → Ev c → W c none σ H'
def ttOf (K : PySem.W.Frag) (W : WX) (w : WT) : TT := fun σ H Q => ∃ U0 B0 H0 U ρ B As, ∃ (Qv : Bool → Prop) (Ev : EX), StOk K U0 B0 H0 U ρ σ B H As ∧ w ρ Qv Ev ∧
  (∀ b B' H', Mv U B H B' H' → Qv b → Q b H') ∧ ∀ c B' H', Mv U B H B' H' → Ev c → W c none σ H'
def tgOf (K : PySem.W.Frag) (W : WX) (w : WG) : TG := fun v σ H Q => ∃ U0 B0 H0 U ρ B As d, ∃ (Qv : Sts → Prop) (Ev : EX), StOk K U0 B0 H0 U ρ σ B H As ∧ Rp K B v d ∧ w d ρ Qv Ev ∧
  (∀ ρ' σ' B' H' As', StOk K U0 B0 H0 U ρ' σ' B' H' As' → Ext B B' → Qv ρ' → Q σ' H') ∧ ∀ c ρ' σ' B' H' As', StOk K U0 B0 H0 U ρ' σ' B' H' As' → Ev c → W c none σ' H'
structure VTs (X : Cx) (W : WX) (es : List Expr) (w : WT) : Prop where
  ex : ∃ t, PTs X es t ∧ SimT X.K W t w
section
variable {X : Cx} {W : WX} {pos : Pos}
theorem VE.can {e : Expr} {w : WE} (h : VE X W e w) : PE X e (tOf X.K W w) := by
  obtain ⟨t, p, s⟩ := h.ex
  exact ⟨fun pins s' σ H Q I ⟨U0, B0, H0, U, ρ, B, As, Qv, Ev, x, hw, k, e⟩ => p.run pins s' σ H Q I (s U0 B0 H0 U ρ σ B H As Qv Ev Q x hw k e)⟩
theorem VTs.can {e : List Expr} {w : WT} (h : VTs X W e w) : PTs X e (ttOf X.K W w) := by
  obtain ⟨t, p, s⟩ := h.ex
  exact ⟨fun pins s' σ H Q I ⟨U0, B0, H0, U, ρ, B, As, Qv, Ev, x, hw, k, e⟩ => p.run pins s' σ H Q I (s U0 B0 H0 U ρ σ B H As Qv Ev Q x hw k e)⟩
theorem VG.can {e : Expr} {w : WG} (h : VG X W e w) : PG X e (tgOf X.K W w) := by
  obtain ⟨t, p, s⟩ := h.ex
  exact ⟨fun pins s' σ H v u Q I r ⟨U0, B0, H0, U, ρ, B, As, d, Qv, Ev, x, hr, hw, k, e⟩ => p.run pins s' σ H v u Q I r (s U0 B0 H0 U ρ σ B H As d v Qv Ev Q x hr hw k e)⟩
def wYes : WT := fun _ Q _ => Q true
theorem vts_nil : VTs X W [] wYes := ⟨_, pts_nil, fun U0 B0 H0 U ρ σ B H As Qv Ev Q x hw k e => k true B H (Mv.refl x.ext) hw⟩
theorem vts_one {c : Expr} {w : WT} (h : VT X W c w) : VTs X W [c] w := by
  obtain ⟨t, p, s⟩ := h.ex
  exact ⟨_, pts_one p, s⟩
end

/-! ### slots forgotten -/
def wipeS (ρ : Sts) : List Nat → Sts
  | [] => ρ
  | v :: vs => (wipeS ρ vs).set v .no
section
variable {K : PySem.W.Frag} {U0 : Option Addr} {B0 H0 : Hp} {U : Option Addr} {ρ : Sts} {σ : L2.St} {B H : Hp} {As : Nat → List Addr}
theorem StOk.no (x : StOk K U0 B0 H0 U ρ σ B H As) (i : Nat) (o : Option V) : StOk K U0 B0 H0 U (ρ.set i .no) (σ.set i o) B H (upA As i []) := by
  refine ⟨by simp [x.len], x.mv, x.u0, fun j t e => ?_, fun j e => ?_, fun j a ha => ?_, fun j => ?_, fun j k a ha hk => ?_, fun u e j ha => ?_, x.uC⟩
  · by_cases hj : j = i
    · subst hj
      by_cases hl : j < ρ.length
      · rw [List.getElem?_set_self hl] at e
        cases e
        exact upA_same
      · rw [List.getElem?_eq_none (by simpa using hl)] at e; cases e
    · rw [List.getElem?_set_ne (Ne.symm hj)] at e
      rw [List.getElem?_set_ne (Ne.symm hj), upA_ne hj]
      exact x.at_ j t e
  · by_cases hj : j = i
    · subst hj; exact upA_same
    · rw [List.getElem?_set_ne (Ne.symm hj)] at e
      rw [upA_ne hj]
      exact x.ot j e
  · by_cases hj : j = i
    · subst hj; rw [upA_same] at ha; cases ha
    · rw [upA_ne hj] at ha; exact x.fr j a ha
  · by_cases hj : j = i
    · subst hj; rw [upA_same]; exact List.nodup_nil
    · rw [upA_ne hj]; exact x.nd j
  · by_cases hj : j = i
    · subst hj; rw [upA_same] at ha; cases ha
    · by_cases hk' : k = i
      · subst hk'; rw [upA_same] at hk; cases hk
      · rw [upA_ne hj] at ha; rw [upA_ne hk'] at hk; exact x.sp j k a ha hk
  · by_cases hj : j = i
    · subst hj; rw [upA_same] at ha; cases ha
    · rw [upA_ne hj] at ha; exact x.uA u e j ha
theorem StOk.wipe (x : StOk K U0 B0 H0 U ρ σ B H As) : ∀ vs : List Nat, ∃ As', StOk K U0 B0 H0 U (wipeS ρ vs) (wipe σ vs) B H As' ∧ ∀ i a, a ∈ As' i → a ∈ As i
  | [] => ⟨As, x, fun _ _ h => h⟩
  | v :: vs => by
    obtain ⟨As', y, h⟩ := x.wipe vs
    refine ⟨_, y.no v none, fun i a ha => ?_⟩
    by_cases hj : i = v
    · subst hj; rw [upA_same] at ha; cases ha
    · rw [upA_ne hj] at ha; exact h i a ha
end
theorem wipe_cons (σ : L2.St) (v : Nat) (vs : List Nat) : wipe σ (v :: vs) = (wipe σ vs).set v none := rfl
theorem wipe_get (σ : L2.St) : ∀ (vs : List Nat) (j : Nat), (wipe σ vs)[j]? = if j ∈ vs then σ[j]?.map (fun _ => none) else σ[j]?
  | [], j => by simp [wipe]
  | v :: vs, j => by
    rw [wipe_cons]
    by_cases hj : j = v
    · subst hj
      by_cases hl : j < (wipe σ vs).length
      · rw [List.getElem?_set_self hl]
        have : j < σ.length := by rw [wipe_length] at hl; exact hl
        simp [this]
      · rw [List.getElem?_eq_none (by simpa using hl)]
        have : ¬ j < σ.length := by rw [wipe_length] at hl; exact hl
        simp [this]
    · rw [List.getElem?_set_ne (Ne.symm hj), wipe_get σ vs j]
      simp [hj]
theorem wipe_eq {σ σ' : L2.St} {vs : List Nat} (hl : σ.length = σ'.length) (h : ∀ j, j ∉ vs → σ'[j]? = σ[j]?) : wipe σ' vs = wipe σ vs := by
  apply List.ext_getElem?
  intro j
  rw [wipe_get, wipe_get]
  by_cases hj : j ∈ vs
  · rw [if_pos hj, if_pos hj]
    by_cases hi : j < σ.length
    · simp [hi, hl ▸ hi]
    · have : ¬ j < σ'.length := by omega
      simp [hi, this]
  · rw [if_neg hj, if_neg hj]
    exact h j hj

/-! ### targets of names alone -/
def SimN (K : PySem.W.Frag) (vs : List Nat) (g : TG) (w : WG) : Prop := ∀ U0 B0 H0 U ρ σ B H As (d : D) (v : V) (Qv : Sts → Prop) (Ev : EX) (Q : L2.St → Hp → Prop), StOk K U0 B0 H0 U ρ σ B H As → Rp K B v d → w d ρ Qv Ev →
  (∀ ρ' σ' As', StOk K U0 B0 H0 U ρ' σ' B H As' → σ'.length = σ.length → (∀ j, j ∉ vs → σ'[j]? = σ[j]?) → Qv ρ' → Q σ' H) → g v σ H Q
def SimNs (K : PySem.W.Frag) (vs : List Nat) (g : TGs) (w : WGs) : Prop := ∀ U0 B0 H0 U ρ σ B H As (ds : List D) (us : List V) (Qv : Sts → Prop) (Ev : EX) (Q : L2.St → Hp → Prop), StOk K U0 B0 H0 U ρ σ B H As → RpAll K B us ds → w ds ρ Qv Ev →
  (∀ ρ' σ' As', StOk K U0 B0 H0 U ρ' σ' B H As' → σ'.length = σ.length → (∀ j, j ∉ vs → σ'[j]? = σ[j]?) → Qv ρ' → Q σ' H) → g us σ H Q
def tnOf (K : PySem.W.Frag) (vs : List Nat) (w : WG) : TG := fun v σ H Q => ∃ U0 B0 H0 U ρ B As d, ∃ (Qv : Sts → Prop) (Ev : EX), StOk K U0 B0 H0 U ρ σ B H As ∧ Rp K B v d ∧ w d ρ Qv Ev ∧
  (∀ ρ' σ' As', StOk K U0 B0 H0 U ρ' σ' B H As' → σ'.length = σ.length → (∀ j, j ∉ vs → σ'[j]? = σ[j]?) → Qv ρ' → Q σ' H)
structure VN (X : Cx) (vs : List Nat) (tg : Expr) (w : WG) : Prop where
  ex : ∃ g, PG X tg g ∧ SimN X.K vs g w
structure VNs (X : Cx) (vs : List Nat) (tg : List Expr) (w : WGs) : Prop where
  ex : ∃ g, PGs X tg g ∧ SimNs X.K vs g w
section
variable {X : Cx} {W : WX} {pos : Pos} {vs : List Nat}
theorem VN.can {e : Expr} {w : WG} (h : VN X vs e w) : PG X e (tnOf X.K vs w) := by
  obtain ⟨t, p, s⟩ := h.ex
  exact ⟨fun pins s' σ H v u Q I r ⟨U0, B0, H0, U, ρ, B, As, d, Qv, Ev, x, hr, hw, k⟩ => p.run pins s' σ H v u Q I r (s U0 B0 H0 U ρ σ B H As d v Qv Ev Q x hr hw k)⟩
theorem VN.vg {e : Expr} {w : WG} (h : VN X vs e w) : VG X W e w := by
  obtain ⟨t, p, s⟩ := h.ex
  exact ⟨t, p, fun U0 B0 H0 U ρ σ B H As d v Qv Ev Q x r hw k _ => s U0 B0 H0 U ρ σ B H As d v Qv Ev Q x r hw fun ρ' σ' As' y _ _ q => k ρ' σ' B H As' y (Ext.refl _) q⟩
theorem vn_name {i : Nat} {x : Str} (hv : i ∈ vs) (hN : X.N.Nodup) (hi : X.N[i]? = some x) (hx : Loc X.env.scope x) (hf : X.fn x = true ∨ X.env.scope.names.lookup x = some .local := by first | exact .inl rfl | exact .inr rfl | assumption) : VN X vs (.Name x pos) (gwSet i) := by
  refine ⟨_, pg_name hN hi hx hf, fun U0 B0 H0 U ρ σ B H As d v Qv Ev Q x r hw k => ?_⟩
  refine k _ _ _ (x.setV r i hw.1) (by simp) (fun j hj => ?_) hw.2
  rw [List.getElem?_set_ne (fun e => hj (by rw [← e]; exact hv))]
theorem vns_nil : VNs X vs [] gwNil := ⟨_, pgs_nil, fun U0 B0 H0 U ρ σ B H As ds us Qv Ev Q x r hw k => by
  cases ds with
  | nil => cases r; exact ⟨rfl, k _ _ _ x rfl (fun _ _ => rfl) hw⟩
  | cons _ _ => exact hw.elim⟩
theorem vns_cons {e : Expr} {es : List Expr} {g : WG} {r : WGs} (h1 : VN X vs e g) (h2 : VNs X vs es r)
    (hs : (assignEach (e :: es) X.env).map (·.2) = assign e X.env :: (assignEach es X.env).map (·.2) := by rfl) : VNs X vs (e :: es) (gwCons g r) := by
  obtain ⟨t, p, s⟩ := h1.ex
  obtain ⟨u, q, s2⟩ := h2.ex
  refine ⟨_, pgs_cons p q hs, fun U0 B0 H0 U ρ σ B H As ds us Qv Ev Q x rr hw k => ?_⟩
  cases ds with
  | nil => exact hw.elim
  | cons d ds =>
    cases rr with
    | cons a b =>
      refine ⟨_, _, rfl, s U0 B0 H0 U ρ σ B H As d _ _ Ev _ x a hw (fun ρ1 σ1 A1 y l1 o1 q => ?_)⟩
      exact s2 U0 B0 H0 U ρ1 σ1 B H A1 ds _ Qv Ev Q y b q fun ρ' σ' As' z l2 o2 q => k ρ' σ' As' z (l2.trans l1) (fun j hj => (o2 j hj).trans (o1 j hj)) q
theorem vn_tup {es : List Expr} {k : Nat} {g : WGs} {n : Nat} (hc : X.calm = true) (h : VNs X vs es g)
    (hn : (assignEach es X.env).length = n := by rfl) (hst : (assignEach es X.env).findIdx? (·.1) = none := by rfl) : VN X vs (.Tuple es k pos) (gwTup n g) := by
  obtain ⟨t, p, s⟩ := h.ex
  refine ⟨_, pg_tup hc p hn hst, fun U0 B0 H0 U ρ σ B H As d v Qv Ev Q x rr hw k => ?_⟩
  unfold gwTup at hw
  split at hw
  · cases rr with
    | tup a b => exact ⟨_, _, rfl, sqT_ext x.ext a, by rw [b.len]; exact hw.1, s U0 B0 H0 U ρ σ B H As _ _ Qv Ev Q x b hw.2 k⟩
  · exact hw.elim
end

/-! ### comprehensions -/
/-- what an element is: plain (n = 0), or one's own to the depth n -/
def Sl.elt : Nat → Sl → Option D
  | 0, s => s.dat
  | n + 1, .own m d => if m = n + 1 then some d else none
  | _ + 1, _ => none
def noE : EX := fun _ => False
def W0 : WX := fun _ _ _ _ => False
def wLc (wi : WI) (g : WG) (wt : WT) (we : WE) (vs : List Nat) (n : Nat) : WE := fun ρ Q E => wi ρ (fun ds => ∃ P : Nat → List D → Prop, P 0 [] ∧
  (∀ i d acc, ds[i]? = some d → P i acc → g d (wipeS ρ vs) (fun ρ' => wt ρ' (fun b => if b = true then we ρ' (fun s => ∃ d', s.elt n = some d' ∧ acc.length < sizeLine ∧ P (i + 1) (acc ++ [d'])) noE else P (i + 1) acc) noE) noE) ∧
  ∀ acc, P ds.length acc → Q (.own (n + 1) (.list acc))) E
theorem ownAll_app {K : PySem.W.Frag} {B H : Hp} {n : Nat} : ∀ {ds : List D} {xs : List V} {A : List Addr} {d : D} {x : V} {A' : List Addr}, OwnAll K B H n ds xs A → Own K B H n d x A' → OwnAll K B H n (ds ++ [d]) (xs ++ [x]) (A ++ A')
  | [], xs, A, d, x, A', h, h' => by
    simp only [OwnAll] at h
    obtain ⟨rfl, rfl⟩ := h
    show OwnAll K B H n [d] [x] ([] ++ A')
    simp only [OwnAll]
    exact ⟨x, [], A', [], rfl, by simp, h', rfl, rfl⟩
  | e :: ds, xs, A, d, x, A', h, h' => by
    simp only [OwnAll] at h
    obtain ⟨y, ys, A1, A2, rfl, rfl, h1, h2⟩ := h
    show OwnAll K B H n (e :: (ds ++ [d])) (y :: ys ++ [x]) (A1 ++ A2 ++ A')
    simp only [OwnAll]
    exact ⟨y, ys ++ [x], A1, A2 ++ A', rfl, by simp, h1, ownAll_app h2 h'⟩
theorem RsOk.elt {K : PySem.W.Frag} {U : Option Addr} {B H B' H' : Hp} {v : V} {s : Sl} {A : List Addr} {n : Nat} {d : D} (m : Mv U B H B' H') (r : RsOk K U H B' H' v s A) (e : s.elt n = some d) :
    ∃ B'' A', Mv U B H B'' H' ∧ Own K B'' H' n d v A' ∧ A'.Nodup ∧ ∀ a ∈ A', H a = none := by
  cases n with
  | zero =>
    obtain ⟨B'', m', _, r'⟩ := r.frz m
    cases s with
    | val d' => cases e; exact ⟨B'', [], m', own_zero.mpr ⟨rfl, r'.dp⟩, List.nodup_nil, fun _ h => nomatch h⟩
    | own k d' => cases e; exact ⟨B'', [], m', own_zero.mpr ⟨rfl, r'.dp⟩, List.nodup_nil, fun _ h => nomatch h⟩
    | no => cases e
    | urn => cases e
    | raw _ => cases e
    | scr _ => cases e
  | succ n =>
    cases s with
    | own k d' =>
      have e2 : (if k = n + 1 then some d' else none) = some d := e
      by_cases hk : k = n + 1
      · rw [if_pos hk] at e2
        cases e2
        subst hk
        obtain ⟨v', ev, ow⟩ := r.ok
        cases ev
        exact ⟨B', A, m, ow, r.nd, r.fr⟩
      · rw [if_neg hk] at e2; cases e2
    | val d' => cases e
    | no => cases e
    | urn => cases e
    | raw _ => cases e
    | scr _ => cases e
section
variable {X : Cx} {W : WX} {pos : Pos}
theorem sim_lc {K : PySem.W.Frag} {ti : TI} {wi : WI} {g : WG} {wt : WT} {we : WE} {vs : List Nat} {n : Nat} (si : SimI K W ti wi) : SimE K W (tLc ti (tnOf K vs g) (ttOf K W0 wt) (tOf K W0 we) vs) (wLc wi g wt we vs n) := by
  intro U0 B0 H0 U ρ σ B H As Qv Ev Q x hw kq ke
  have hu : ∀ u, U = some u → UrnC H u := fun u q => (x.uC u q).1
  refine si U0 B0 H0 U ρ σ B H As _ _ _ x hw (fun ds J B1 H1 m1 it q => ?_) ke
  obtain ⟨P, p0, turn, fin⟩ := q
  intro Da hDa
  have x1 := x.step m1
  have hu1 : ∀ u, U = some u → UrnC H1 u := fun u q => (x1.uC u q).1
  have mD : Mv U B1 H1 B1 (upd H1 Da (.lst [])) := Mv.made m1.eh hDa _
  -- the state at a turn: acc made so far at Da, its own lists A
  refine ⟨fun i k H' => k = ds.length - i ∧ i ≤ ds.length ∧ ∃ B' acc xs A, Mv U B1 H1 B' H' ∧ H' Da = some (.lst xs) ∧ B' Da = none ∧ OwnAll K B' H' n acc xs A ∧ (Da :: A).Nodup ∧ (∀ a ∈ A, H1 a = none) ∧ P i acc, ⟨ds.length, by simp, Nat.zero_le _, B1, [], [], [], mD, upd_same, ?_, by simp [OwnAll], by simp, fun _ h => (nomatch h), p0⟩, ?_⟩
  · cases q : B1 Da with
    | none => rfl
    | some o => rw [m1.eh _ _ q] at hDa; cases hDa
  rintro i k H2 ⟨rfl, hi, B2, acc, xs, A, m2, hD2, bD2, ow, nd, fr, iv⟩
  have x2 := x1.step m2
  have hu2 : ∀ u, U = some u → UrnC H2 u := fun u q => (x2.uC u q).1
  have z := it U B2 H2 m2.eb m2.eh x2.uN i
  have hin := ownAll_in n acc xs A ow
  by_cases hlt : i < ds.length
  · refine .inr ⟨z.1 hlt, fun H' => ∃ B' acc xs A, Mv U B1 H1 B' H' ∧ H' Da = some (.lst xs) ∧ B' Da = none ∧ OwnAll K B' H' n acc xs A ∧ (Da :: A).Nodup ∧ (∀ a ∈ A, H1 a = none) ∧ P (i + 1) acc, fun H' hN => ⟨ds.length - (i + 1), by omega, rfl, hlt, hN⟩, fun v H3 yy => ?_⟩
    obtain ⟨B3, m3, r3⟩ := z.2.2 v H3 ds[i] yy (by simp [hlt])
    have x3 := x2.step m3
    obtain ⟨As3, y3, hAs3⟩ := x3.wipe vs
    -- what stays of the list so far
    have stay : ∀ {B4 H4}, Mv U B2 H2 B4 H4 → H4 Da = some (.lst xs) ∧ B4 Da = none ∧ OwnAll K B4 H4 n acc xs A := fun {B4 H4} m4 => by
      have uD : U ≠ some Da := fun e => (hu1 Da e).some hDa
      have uA : ∀ a ∈ A, U ≠ some a := fun a ha e => (hu1 a e).some (fr a ha)
      have off : ∀ a o, H2 a = some o → B2 a = none → B4 a = none := fun a o h h' => by
        cases q : B4 a with
        | none => rfl
        | some o' =>
          rcases m4.nw a o' q with w | w
          · rw [h'] at w; cases w
          · rw [h] at w; cases w
      refine ⟨m4.kp Da _ hD2 uD, off Da _ hD2 bD2, ownAll_mv m4.eb n acc xs A (fun a o ha e => m4.kp a o e (uA a ha)) (fun a ha => ?_) ow⟩
      obtain ⟨⟨l, e⟩, e'⟩ := hin a ha
      exact off a _ e e'
    refine ⟨U0, B0, H0, U, wipeS ρ vs, B3, As3, ds[i], _, noE, y3, r3, turn i ds[i] acc (by simp [hlt]) iv, fun ρ4 σ4 As4 y4 hl4 o4 q4 => ⟨?_, ?_⟩⟩
    · rw [wipe_eq (σ := wipe σ vs) hl4.symm o4]
      refine wipe_eq (by rw [wipe_length]) fun j hj => ?_
      rw [wipe_get, if_neg hj]
    · refine ⟨U0, B0, H0, U, ρ4, B3, As4, _, noE, y4, q4, fun b B5 H5 m5 q5 => ?_, fun c _ _ _ q => q.elim⟩
      have m25 := m3.trans' m5 hu2
      have x5 := y4.step m5
      cases b with
      | false =>
        obtain ⟨e1, e2, e3⟩ := stay m25
        exact ⟨B5, acc, xs, A, m2.trans' m25 hu1, e1, e2, e3, nd, fr, q5⟩
      | true =>
        refine ⟨U0, B0, H0, U, ρ4, B5, As4, _, noE, x5, q5, fun s v6 B6 H6 A6 m6 r6 q6 => ?_, fun c _ _ _ q => q.elim⟩
        obtain ⟨d', ed, hz, pn⟩ := q6
        obtain ⟨B7, A7, m7, ow7, nd7, fr7⟩ := r6.elt m6 ed
        have m27 := m25.trans' m7 hu2
        obtain ⟨e1, e2, e3⟩ := stay m27
        have in7 := own_in n d' v6 A7 ow7
        have hu5 : ∀ u, U = some u → UrnC H5 u := fun u q => (x5.uC u q).1
        have back : ∀ a, H5 a = none → H2 a = none := fun a h => none_back m25 hu2 h
        have dj : ∀ a ∈ A7, a ∉ Da :: A := fun a ha hm => by
          have h2 := back a (fr7 a ha)
          rcases List.mem_cons.mp hm with rfl | hm
          · rw [hD2] at h2; cases h2
          · obtain ⟨⟨l, e⟩, _⟩ := hin a hm
            rw [e] at h2; cases h2
        have hlen : xs.length = acc.length := by
          have := (ownAll_frz (B' := Bu B7 H6 A) (Bu.base m7.eh) n acc xs A (fun a ha => Bu.in_ ha) e3).len
          exact this
        refine ⟨xs, e1, by rw [hlen]; exact hz, B7, acc ++ [d'], xs ++ [v6], A ++ A7, ?_, upd_same, e2, ?_, ?_, ?_, pn⟩
        · -- Da's content alone is new
          have mm := m2.trans' m27 hu1
          refine ⟨mm.eb, fun a o e => ?_, fun a o e u => ?_, mm.nw, fun u e q => ?_⟩
          · have : a ≠ Da := fun w => by subst w; rw [e2] at e; cases e
            rw [upd_ne this]; exact mm.eh a o e
          · have : a ≠ Da := fun w => by subst w; rw [hDa] at e; cases e
            rw [upd_ne this]; exact mm.kp a o e u
          · have : u ≠ Da := fun w => (hu1 u e).some (by rw [w]; exact hDa)
            obtain ⟨g1, g2, g3, g4, g5⟩ := mm.ur u e q
            exact ⟨g1, g2, g3, by rw [upd_ne this]; exact g4, g5⟩
        · have keep : ∀ a o, a ∈ A ++ A7 → H6 a = some o → upd H6 Da (.lst (xs ++ [v6])) a = some o := fun a o ha e => by
            have : a ≠ Da := fun w => by
              subst w
              rcases List.mem_append.mp ha with h | h
              · exact (List.nodup_cons.mp nd).1 h
              · exact dj a h List.mem_cons_self
            rw [upd_ne this]; exact e
          have off : ∀ a, a ∈ A ++ A7 → B7 a = none := fun a ha => by
            rcases List.mem_append.mp ha with h | h
            · exact (ownAll_in n acc xs A e3 a h).2
            · exact (in7 a h).2
          exact ownAll_mv (Ext.refl _) n _ _ _ keep off (ownAll_app e3 ow7)
        · rw [← List.cons_append, List.nodup_append]
          refine ⟨nd, nd7, fun a ha b hb e => dj b hb (e ▸ ha)⟩
        · intro a ha
          rcases List.mem_append.mp ha with h | h
          · exact fr a h
          · exact none_back m2 hu1 (back a (fr7 a h))
  · have e : i = ds.length := by omega
    subst e
    refine .inl ⟨z.2.1 (Nat.le_refl _), ?_⟩
    refine kq (.own (n + 1) (.list acc)) (.ref Da) B2 H2 (Da :: A) (m1.trans' m2 hu) ⟨⟨_, rfl, ?_⟩, nd, fun a ha => ?_⟩ (fin acc iv)
    · simp only [Own]
      exact ⟨Da, xs, A, rfl, hD2, bD2, rfl, ow⟩
    · rcases List.mem_cons.mp ha with rfl | h
      · exact none_back m1 hu hDa
      · exact none_back m1 hu (fr a h)
theorem ve_lc (n : Nat) {elt tg iter : Expr} {ifs : List Expr} {scope : Scope} {own : List (Str × Nat)} {wi : WI} {g : WG} {wt : WT} {we : WE} (hc : X.calm = true) (hN : X.N.Nodup) (hi : VI X W tg iter wi) (ok : BlkOk X.N X.env.scope scope own)
    (hg : ∀ (s : Shared) (H : Hp) (C : Addr) (cl : List (Str × Addr)) (fp : List Addr), VN (X.blk s H scope (compEnvC scope cl C X.env) fp) (own.map (·.2)) tg g) (ht : ∀ (s : Shared) (H : Hp) (C : Addr) (cl : List (Str × Addr)) (fp : List Addr), VTs (X.blk s H scope (compEnvC scope cl C X.env) fp) W0 ifs wt)
    (he : ∀ (s : Shared) (H : Hp) (C : Addr) (cl : List (Str × Addr)) (fp : List Addr), VE (X.blk s H scope (compEnvC scope cl C X.env) fp) W0 elt we) (hs : ∀ x, foldedSetIterable iter X.env x = pure x := by intro _; rfl) :
    VE X W (.ListComp elt [⟨tg, iter, ifs, 0⟩] scope pos) (wLc wi g wt we (own.map (·.2)) n) := by
  obtain ⟨ti, pi, si⟩ := hi.ex
  exact ⟨_, pe_lc hc hN pi ok (fun s H C cl fp => (hg s H C cl fp).can) (fun s H C cl fp => (ht s H C cl fp).can) (fun s H C cl fp => (he s H C cl fp).can) hs, sim_lc si⟩
theorem vs_setLc (n : Nat) {i : Nat} {y : Str} {py : Pos} {elt tg iter : Expr} {ifs : List Expr} {scope : Scope} {own : List (Str × Nat)} {spos : Pos} {wi : WI} {g : WG} {wt : WT} {we : WE} (hc : X.calm = true) (hN : X.N.Nodup) (hy : X.N[i]? = some y) (hyl : X.env.scope.names.lookup y = some .local)
    (hsw : swapsWith (.ListComp elt [⟨tg, iter, ifs, 0⟩] scope pos) (some (.Name y py)) spos.line X.env = pure true) (hi : VI X W tg iter wi) (ok : BlkOk X.N X.env.scope scope own)
    (hg : ∀ (s : Shared) (H : Hp) (C : Addr) (cl : List (Str × Addr)) (fp : List Addr), VN (X.blk s H scope (compEnvC scope cl C X.env) fp) (own.map (·.2)) tg g) (ht : ∀ (s : Shared) (H : Hp) (C : Addr) (cl : List (Str × Addr)) (fp : List Addr), VTs (X.blk s H scope (compEnvC scope cl C X.env) fp) W0 ifs wt)
    (he : ∀ (s : Shared) (H : Hp) (C : Addr) (cl : List (Str × Addr)) (fp : List Addr), VE (X.blk s H scope (compEnvC scope cl C X.env) fp) W0 elt we) (hs : ∀ x, foldedSetIterable iter X.env x = pure x := by intro _; rfl) :
    VS X W (.Assign [.Name y py] (.ListComp elt [⟨tg, iter, ifs, 0⟩] scope pos) spos) (wSet i (wLc wi g wt we (own.map (·.2)) n)) := by
  obtain ⟨ti, pi, si⟩ := hi.ex
  exact ⟨_, ps_setLc hc hN hy hyl hsw pi ok (fun s H C cl fp => (hg s H C cl fp).can) (fun s H C cl fp => (ht s H C cl fp).can) (fun s H C cl fp => (he s H C cl fp).can) hs, sim_set (sim_lc si)⟩
theorem vs_setLcV (n : Nat) {i : Nat} {y : Str} {py : Pos} {elt tg iter : Expr} {ifs : List Expr} {scope : Scope} {own : List (Str × Nat)} {spos : Pos} {wi : WI} {g : WG} {wt : WT} {we : WE} (hc : X.calm = true) (hN : X.N.Nodup) (hy : X.N[i]? = some y) (hyl : X.env.scope.names.lookup y = some .local)
    (hsw : swapsWith (.ListComp elt [⟨tg, iter, ifs, 0⟩] scope pos) (some (.Name y py)) spos.line X.env = pure true) (hi : VI X W tg iter wi) (ok : BlkOk X.N X.env.scope scope own)
    (hg : ∀ (s : Shared) (H : Hp) (C : Addr) (cl : List (Str × Addr)) (fp : List Addr), VN (X.blk s H scope (compEnvC scope cl C X.env) fp) (own.map (·.2)) tg g) (ht : ∀ (s : Shared) (H : Hp) (C : Addr) (cl : List (Str × Addr)) (fp : List Addr), VTs (X.blk s H scope (compEnvC scope cl C X.env) fp) W0 ifs wt)
    (he : ∀ (s : Shared) (H : Hp) (C : Addr) (cl : List (Str × Addr)) (fp : List Addr), VE (X.blk s H scope (compEnvC scope cl C X.env) fp) W0 elt we) (hs : ∀ x, foldedSetIterable iter X.env x = pure x := by intro _; rfl) :
    VS X W (.Assign [.Name y py] (.ListComp elt [⟨tg, iter, ifs, 0⟩] scope pos) spos) (wSetV i (wLc wi g wt we (own.map (·.2)) n)) := by
  obtain ⟨ti, pi, si⟩ := hi.ex
  exact ⟨_, ps_setLc hc hN hy hyl hsw pi ok (fun s H C cl fp => (hg s H C cl fp).can) (fun s H C cl fp => (ht s H C cl fp).can) (fun s H C cl fp => (he s H C cl fp).can) hs, sim_setV (sim_lc si)⟩
end
end VL

set_option Elab.async false
set_option linter.all false
set_option maxRecDepth 100000
set_option maxHeartbeats 2000000
/-! VM: more walks (enumerate, zip, reversed), methods, one's own lists changed, of the value layer. -/
namespace VL
open PySem PySem.Spec PyProof.Rows L2

section
variable {X : Cx} {W : WX} {pos : Pos}
/-! ### enumerate, zip, reversed -/
def enumD (ds : List D) : List D := ds.zipIdx.map fun p => .tuple [.int (p.2 : Nat), p.1]
theorem enumD_get {ds : List D} {i : Nat} {d : D} (h : (enumD ds)[i]? = some d) : ∃ e, ds[i]? = some e ∧ d = .tuple [.int (i : Nat), e] := by
  unfold enumD at h
  rw [List.getElem?_map, List.getElem?_zipIdx] at h
  cases q : ds[i]? with
  | none => rw [q] at h; cases h
  | some e => rw [q] at h; cases h; exact ⟨e, rfl, by simp⟩
theorem enumD_len {ds : List D} : (enumD ds).length = ds.length := by simp [enumD]
theorem pair_laid {K : PySem.W.Frag} {U : Option Addr} {B1 B H : Hp} {T : Addr} {x y : V} {d e : D} (e1 : Ext B1 B) (e2 : Ext B H) (hu : ∀ u, U = some u → H u ≠ none) (hT : H T = none) (hx : Rp K B1 x d) (hy : Rp K B1 y e) :
    ∃ B', Mv U B H B' (upd H T (.tup [x, y])) ∧ Rp K B' (.ref T) (.tuple [d, e]) := by
  refine ⟨upd B T (.tup [x, y]), Mv.laid e2 hu hT _, ?_⟩
  have r := RsOk.tup (U := U) (H' := H) (K := K) e2 hT (.cons (dp_ext e1 _ _ hx) (.cons (dp_ext e1 _ _ hy) .nil))
  exact r.dp
theorem itOk_e {K : PySem.W.Frag} {B1 : Hp} {a : Addr} {xs : List V} {ds : List D} (h : B1 a = some (.lst xs)) (r : RpAll K B1 xs ds) : ItOk K (Ite K a) B1 (enumD ds) := by
  intro U B H e1 e2 hu i
  have hs : SqL K H a xs := .inl (.inl (e2 _ _ (e1 _ _ h)))
  have hl := r.len
  rw [enumD_len]
  refine ⟨fun hi => ⟨xs, xs[i]'(by omega), hs, by simp [hl, hi]⟩, fun hi => ⟨xs, hs, by omega⟩, fun x H' d y e => ?_⟩
  obtain ⟨T, v, rfl, hT, rfl, y⟩ := y
  obtain ⟨d', h1, rfl⟩ := enumD_get e
  obtain ⟨x', h2, h3⟩ := r.getD h1
  have z := y xs hs
  rw [h2] at z; cases z
  exact pair_laid e1 e2 hu hT (.int _) h3
def wiEnum (w : WA) : WI := fun ρ Q E => wDats w ρ (fun ds => match ds with | [.list es] => Q (enumD es) | _ => False) E
theorem vi_enum {elts : List Expr} {kk : Nat} {tpos p : Pos} {a : Expr} {w : WE} (hg : Gl X "enumerate") (hm : X.mg "enumerate" = none) (h : VE X W a w) (hs : starEach (a :: []) X.env = (false, eval a X.env) :: starEach [] X.env := by rfl) : VI X W (.Tuple elts kk tpos) (.Call (.Name "enumerate" p) [a] [] pos) (wiEnum (wConsA w wNil)) := by
  obtain ⟨t, q, s⟩ := (va_cons h va_nil hs).ex
  refine ⟨_, pi_enum hg hm q hs, fun U0 B0 H0 U ρ σ B H As Qv Ev R x hw k e => ?_⟩
  refine s.dats x hw (fun ds vs B' H' m r q => ?_) e
  split at q
  · cases r with
    | cons a r =>
      cases r
      cases a with
      | lst a b => exact ⟨_, _, rfl, .inl (.inl (m.eh _ _ a)), k _ _ B' H' m (itOk_e a b) q⟩
  · exact q.elim
def zipD (ds es : List D) : List D := (ds.zip es).map fun p => .tuple [p.1, p.2]
theorem zipD_get {ds es : List D} {i : Nat} {d : D} (h : (zipD ds es)[i]? = some d) : ∃ a b, ds[i]? = some a ∧ es[i]? = some b ∧ d = .tuple [a, b] := by
  unfold zipD at h
  rw [List.getElem?_map] at h
  cases q : (ds.zip es)[i]? with
  | none => rw [q] at h; cases h
  | some p =>
    rw [q] at h; cases h
    obtain ⟨h1, h2⟩ := List.getElem?_zip_eq_some.mp q
    exact ⟨_, _, h1, h2, rfl⟩
theorem zipD_len {ds es : List D} : (zipD ds es).length = min ds.length es.length := by simp [zipD]
theorem itOk_z {K : PySem.W.Frag} {B1 : Hp} {a b : Addr} {xs ys : List V} {ds es : List D} (h : B1 a = some (.lst xs)) (h' : B1 b = some (.lst ys)) (r : RpAll K B1 xs ds) (r' : RpAll K B1 ys es) : ItOk K (Itz K a b) B1 (zipD ds es) := by
  intro U B H e1 e2 hu i
  have hs : SqL K H a xs := .inl (.inl (e2 _ _ (e1 _ _ h)))
  have hs' : SqL K H b ys := .inl (.inl (e2 _ _ (e1 _ _ h')))
  have hl := r.len
  have hl' := r'.len
  rw [zipD_len]
  refine ⟨fun hi => ⟨xs, ys, xs[i]'(by omega), ys[i]'(by omega), hs, hs', by simp, by simp⟩, fun hi => ⟨xs, ys, hs, hs', by omega⟩, fun x H' d y e => ?_⟩
  obtain ⟨T, v, w, rfl, hT, rfl, y1, y2⟩ := y
  obtain ⟨d1, d2, h1, h2, rfl⟩ := zipD_get e
  obtain ⟨x1, g1, g2⟩ := r.getD h1
  obtain ⟨x2, g3, g4⟩ := r'.getD h2
  have z := y1 xs hs
  have z' := y2 ys hs'
  rw [g1] at z; cases z
  rw [g3] at z'; cases z'
  exact pair_laid e1 e2 hu hT g2 g4
theorem itOk_zT {K : PySem.W.Frag} {B1 : Hp} {a b : Addr} {xs ys : List V} {ds es : List D} (h : SqT K B1 a xs) (h' : SqT K B1 b ys) (r : RpAll K B1 xs ds) (r' : RpAll K B1 ys es) : ItOk K (RZ.ItzT K a b) B1 (zipD ds es) := by
  intro U B H e1 e2 hu i
  have hs : SqT K H a xs := sqT_ext (e1.trans e2) h
  have hs' : SqT K H b ys := sqT_ext (e1.trans e2) h'
  have hl := r.len
  have hl' := r'.len
  rw [zipD_len]
  refine ⟨fun hi => ⟨xs, ys, xs[i]'(by omega), ys[i]'(by omega), hs, hs', by simp, by simp⟩, fun hi => ⟨xs, ys, hs, hs', by omega⟩, fun x H' d y e => ?_⟩
  obtain ⟨T, v, w, rfl, hT, rfl, y1, y2⟩ := y
  obtain ⟨d1, d2, h1, h2, rfl⟩ := zipD_get e
  obtain ⟨x1, g1, g2⟩ := r.getD h1
  obtain ⟨x2, g3, g4⟩ := r'.getD h2
  have z := y1 xs hs
  have z' := y2 ys hs'
  rw [g1] at z; cases z
  rw [g3] at z'; cases z'
  exact pair_laid e1 e2 hu hT g2 g4
def wiZip (w : WA) : WI := fun ρ Q E => wDats w ρ (fun ds => match ds with | [.list as, .list bs] => Q (zipD as bs) | [.tuple as, .tuple bs] => Q (zipD as bs) | _ => False) E
theorem vi_zip {elts : List Expr} {kk : Nat} {tpos p : Pos} {a b : Expr} {w w2 : WE} (hg : Gl X "zip") (hm : X.mg "zip" = none) (h : VE X W a w) (h2 : VE X W b w2) (hs : starEach (a :: [b]) X.env = (false, eval a X.env) :: starEach [b] X.env := by rfl) (hs2 : starEach (b :: []) X.env = (false, eval b X.env) :: starEach [] X.env := by rfl) (hpl : (backTo pos (starEach [b] X.env)).any (·.1) = false := by rfl) :
    VI X W (.Tuple elts kk tpos) (.Call (.Name "zip" p) [a, b] [] pos) (wiZip (wConsA w (wConsA w2 wNil))) := by
  obtain ⟨t, q, s⟩ := (va_cons h (va_cons h2 va_nil hs2) hs).ex
  refine ⟨_, RZ.pi_zipA hg hm q hs hpl, fun U0 B0 H0 U ρ σ B H As Qv Ev R x hw k e => ?_⟩
  refine s.dats x hw (fun ds vs B' H' m r q => ?_) e
  split at q
  · cases r with
    | cons a r =>
      cases r with
      | cons a' r =>
        cases r
        cases a with
        | lst a b =>
          cases a' with
          | lst a' b' => exact ⟨_, _, _, _, rfl, .inl ⟨.inl (.inl (m.eh _ _ a)), .inl (.inl (m.eh _ _ a')), k _ _ B' H' m (itOk_z a a' b b') q⟩⟩
  · cases r with
    | cons a r =>
      cases r with
      | cons a' r =>
        cases r
        cases a with
        | tup a b =>
          cases a' with
          | tup a' b' => exact ⟨_, _, _, _, rfl, .inr ⟨sqT_ext m.eh a, sqT_ext m.eh a', k _ _ B' H' m (itOk_zT a a' b b') q⟩⟩
  · exact q.elim
theorem rev_get {α : Type} {ds : List α} {i : Nat} {d : α} (h : ds.reverse[i]? = some d) : i < ds.length ∧ ds[ds.length - 1 - i]? = some d := by
  have hi : i < ds.length := by
    have := (List.getElem?_eq_some_iff.mp h).1
    simpa using this
  rw [List.getElem?_reverse hi] at h
  exact ⟨hi, h⟩
theorem itOk_v {K : PySem.W.Frag} {B1 : Hp} {a : Addr} {xs : List V} {ds : List D} (h : B1 a = some (.lst xs)) (r : RpAll K B1 xs ds) : ItOk K (Itv K a xs.length) B1 ds.reverse := by
  intro U B H e1 e2 hu i
  have hs : SqL K H a xs := .inl (.inl (e2 _ _ (e1 _ _ h)))
  have hl := r.len
  rw [List.length_reverse]
  refine ⟨fun hi => ⟨by omega, xs, xs[xs.length - 1 - i]'(by omega), hs, by simp⟩, fun hi => (by show xs.length ≤ i; omega), fun x H' d y e => ?_⟩
  obtain ⟨rfl, y⟩ := y
  obtain ⟨hi, h1⟩ := rev_get e
  obtain ⟨x', h2, h3⟩ := r.getD h1
  have z := y xs hs
  rw [hl, h2] at z; cases z
  exact ⟨B, Mv.refl e2, dp_ext e1 _ _ h3⟩
theorem itOk_vT {K : PySem.W.Frag} {B1 : Hp} {a : Addr} {xs : List V} {ds : List D} (h : SqT K B1 a xs) (r : RpAll K B1 xs ds) : ItOk K (RT.ItvT K a xs.length) B1 ds.reverse := by
  intro U B H e1 e2 hu i
  have hs : SqT K H a xs := sqT_ext (e1.trans e2) h
  have hl := r.len
  rw [List.length_reverse]
  refine ⟨fun hi => ⟨by omega, xs, xs[xs.length - 1 - i]'(by omega), hs, by simp⟩, fun hi => (by show xs.length ≤ i; omega), fun x H' d y e => ?_⟩
  obtain ⟨rfl, y⟩ := y
  obtain ⟨hi, h1⟩ := rev_get e
  obtain ⟨x', h2, h3⟩ := r.getD h1
  have z := y xs hs
  rw [hl, h2] at z; cases z
  exact ⟨B, Mv.refl e2, dp_ext e1 _ _ h3⟩
def wiRev (w : WE) : WI := fun ρ Q E => dOf w ρ (fun d => match seqD d with | some ds => Q ds.reverse | none => False) E
theorem vi_rev {tg a : Expr} {p : Pos} {w : WE} (hg : Gl X "reversed") (hm : X.mg "reversed" = none) (h : VE X W a w) (hs : starEach (a :: []) X.env = (false, eval a X.env) :: starEach [] X.env := by rfl) : VI X W tg (.Call (.Name "reversed" p) [a] [] pos) (wiRev w) := by
  obtain ⟨t, q, s⟩ := h.ex
  refine ⟨_, RT.pi_revA hg hm q hs, fun U0 B0 H0 U ρ σ B H As Qv Ev R x hw k e => ?_⟩
  refine s.dat x hw (fun d v B' H' m r q => ?_) e
  cases d with
  | list ds => cases r with | lst a b => exact ⟨_, _, rfl, .inl ⟨.inl (.inl (m.eh _ _ a)), k _ _ B' H' m (itOk_v a b) q⟩⟩
  | tuple ds => cases r with | tup a b => exact ⟨_, _, rfl, .inr ⟨sqT_ext m.eh a, k _ _ B' H' m (itOk_vT a b) q⟩⟩
  | _ => exact q.elim

/-! ### methods of plain data -/
abbrev OM := D → List D → (Sl → Prop) → Prop
def SimM (K : PySem.W.Frag) (T : String) (r : V → List V → Hp → VK → Prop) (o : OM) : Prop := ∀ (U : Option Addr) (B H : Hp) (x : V) (d : D) (vs : List V) (ds : List D) (Qv : Sl → Prop) (Q : VK), Ext B H → (∀ u, U = some u → H u ≠ none) → Rp K B x d → RpAll K B vs ds → o d ds Qv →
  (∀ s v B' H' A, Mv U B H B' H' → RsOk K U H B' H' v s A → Qv s → Q v H') → r x vs H Q
def wM (T : String) (o : OM) (wo : WE) (wa : WA) : WE := fun ρ Q E => dOf wo ρ (fun d => tyD d = T ∧ wDats wa ρ (fun ds => o d ds Q) E) E
theorem rp_tyV {K : PySem.W.Frag} {H : Hp} {x : V} {d : D} {T : String} (hT : T = "str" ∨ T = "list") (h : Rp K H x d) (e : tyD d = T) : tyV K T x H := by
  cases h with
  | str _ => exact e.symm
  | lst a _ => exact .inl ⟨e.symm, _, .inl (.inl a)⟩
  | non => rcases hT with rfl | rfl <;> exact absurd (show ("NoneType" : String) = _ from e) (by decide)
  | bl _ => rcases hT with rfl | rfl <;> exact absurd (show ("bool" : String) = _ from e) (by decide)
  | int _ => rcases hT with rfl | rfl <;> exact absurd (show ("int" : String) = _ from e) (by decide)
  | tup _ _ => rcases hT with rfl | rfl <;> exact absurd (show ("tuple" : String) = _ from e) (by decide)
theorem ve_m {T id : String} {name : Str} {r : V → List V → Hp → VK → Prop} {o : OM} {ob e : Expr} {es : List Expr} {apos cpos : Pos} {wo : WE} {wa : WA} (pa : PlainAttrs T) (slot : Slot T name id) (hty : typeOf (.builtin id) = pure (.type "method_descriptor")) (hm : MtR X id r) (sm : SimM X.K T r o) (hT : T = "str" ∨ T = "list") (ho : VE X W ob wo) (ha : VA X W (e :: es) wa)
    (hbase : attributeBase ob name X.env (eval ob X.env) = eval ob X.env := by rfl)
    (hfew : ((backTo cpos (starEach (e :: es) X.env)).all (fun x => !x.1) && (backToKw cpos (keywordEach [] X.env)).all (fun x => x.1.isSome)
      && decide ((e :: es).length + ([] : List Keyword).length + (if ([] : List Keyword).isEmpty then 0 else 1) < 30)) = true := by rfl)
    (hline : (apos.endLine == cpos.line) = true := by rfl) (hs : starEach (e :: es) X.env = (false, eval e X.env) :: starEach es X.env := by rfl) (hplain : (backTo cpos (starEach es X.env)).any (·.1) = false := by rfl) :
    VE X W (.Call (.Attribute ob name apos) (e :: es) [] cpos) (wM T o wo wa) := by
  obtain ⟨t, p, s⟩ := ho.ex
  obtain ⟨ta, p2, s2⟩ := ha.ex
  refine ⟨_, pe_bm pa slot hty hm p p2 hbase hfew hline hs hplain, fun U0 B0 H0 U ρ σ B H As Qv Ev Q x hw k e => ?_⟩
  have hu : ∀ u, U = some u → UrnC H u := fun u q => (x.uC u q).1
  refine s.dat x hw (fun d v B1 H1 m1 r1 q1 => ⟨rp_tyV hT (dp_ext m1.eh _ _ r1) q1.1, ?_⟩) e
  refine s2.dats (x.step m1) q1.2 (fun ds vs B2 H2 m2 r2 q2 => ?_) (fun c B' H' m q => e c B' H' (m1.trans' m hu) q)
  have m12 := m1.trans' m2 hu
  exact sm U B2 H2 v d vs ds Qv Q m2.eh (fun u z => (m12.ur u z (hu u z)).some) (dp_ext m2.eb _ _ r1) r2 q2 fun s v' B' H' A m r q => k s v' B' H' A (m12.trans' m hu) (r.back m12 hu) q
def strsD (ys : List Str) : List D := ys.map .str
theorem rp_strs {K : PySem.W.Frag} {H : Hp} : ∀ ys : List Str, RpAll K H (ys.map V.str) (strsD ys)
  | [] => .nil
  | y :: ys => .cons (.str y) (rp_strs ys)
def oSplit : OM := fun d ds Q => match d, ds with
  | .str a, [.str b] => (b.length == 0) = false ∧ a.length + 2 ≤ sizeLine ∧ Q (.own 1 (.list (strsD (Txt.split a b))))
  | _, _ => False
theorem ve_split {ob e : Expr} {apos cpos : Pos} {wo w : WE} (ho : VE X W ob wo) (h : VE X W e w) (hbase : attributeBase ob "split" X.env (eval ob X.env) = eval ob X.env := by rfl)
    (hfew : ((backTo cpos (starEach (e :: []) X.env)).all (fun x => !x.1) && (backToKw cpos (keywordEach [] X.env)).all (fun x => x.1.isSome) && decide ((e :: []).length + ([] : List Keyword).length + (if ([] : List Keyword).isEmpty then 0 else 1) < 30)) = true := by rfl)
    (hline : (apos.endLine == cpos.line) = true := by rfl) (hs : starEach (e :: []) X.env = (false, eval e X.env) :: starEach [] X.env := by rfl) (hplain : (backTo cpos (starEach [] X.env)).any (·.1) = false := by rfl) :
    VE X W (.Call (.Attribute ob "split" apos) [e] [] cpos) (wM "str" oSplit wo (wConsA w wNil)) := by
  refine ve_m PySem.F.plainAttrs_str PySem.F.slot_str_split PySem.F.type_str_split mt_split (fun U B H x d vs ds Qv Q hB hu hx hvs ho k => ?_) (.inl rfl) ho (va_cons h va_nil hs) hbase hfew hline hs hplain
  unfold oSplit at ho
  split at ho
  · cases hx
    cases hvs with
    | cons a r =>
      cases r; cases a
      exact ⟨_, _, rfl, rfl, ho.1, ho.2.1, fun p hp => k _ _ B _ [p] (Mv.made hB hp _) (.lst hB hp (rp_strs _)) ho.2.2⟩
  · exact ho.elim
def oPart : OM := fun d ds Q => match d, ds with
  | .str a, [.str b] => (b.length == 0) = false ∧ a.length ≤ sizeLine ∧ Q (.val (.tuple [.str (Txt.partition a b).1, .str (Txt.partition a b).2.1, .str (Txt.partition a b).2.2]))
  | _, _ => False
theorem ve_partition {ob e : Expr} {apos cpos : Pos} {wo w : WE} (ho : VE X W ob wo) (h : VE X W e w) (hbase : attributeBase ob "partition" X.env (eval ob X.env) = eval ob X.env := by rfl)
    (hfew : ((backTo cpos (starEach (e :: []) X.env)).all (fun x => !x.1) && (backToKw cpos (keywordEach [] X.env)).all (fun x => x.1.isSome) && decide ((e :: []).length + ([] : List Keyword).length + (if ([] : List Keyword).isEmpty then 0 else 1) < 30)) = true := by rfl)
    (hline : (apos.endLine == cpos.line) = true := by rfl) (hs : starEach (e :: []) X.env = (false, eval e X.env) :: starEach [] X.env := by rfl) (hplain : (backTo cpos (starEach [] X.env)).any (·.1) = false := by rfl) :
    VE X W (.Call (.Attribute ob "partition" apos) [e] [] cpos) (wM "str" oPart wo (wConsA w wNil)) := by
  refine ve_m PySem.F.plainAttrs_str PySem.F.slot_str_partition PySem.F.type_str_partition mt_partition (fun U B H x d vs ds Qv Q hB hu hx hvs ho k => ?_) (.inl rfl) ho (va_cons h va_nil hs) hbase hfew hline hs hplain
  unfold oPart at ho
  split at ho
  · cases hx
    cases hvs with
    | cons a r =>
      cases r; cases a
      exact ⟨_, _, rfl, rfl, ho.1, ho.2.1, fun p hp => k _ _ _ _ [] (Mv.laid hB hu hp _) (.tup hB hp (.cons (.str _) (.cons (.str _) (.cons (.str _) .nil)))) ho.2.2⟩
  · exact ho.elim
def strsOf : List D → Option (List Str)
  | [] => some []
  | .str y :: r => (strsOf r).map (y :: ·)
  | _ :: _ => none
theorem rp_strsOf {K : PySem.W.Frag} {H : Hp} : ∀ {ds : List D} {xs : List V} {ys : List Str}, RpAll K H xs ds → strsOf ds = some ys → xs = ys.map V.str
  | [], _, _, h, e => by cases h; cases e; rfl
  | d :: ds, _, ys, h, e => by
    cases h with
    | cons a b =>
      cases d with
      | str c =>
        unfold strsOf at e
        cases q : strsOf ds with
        | none => rw [q] at e; cases e
        | some r =>
          rw [q] at e
          cases e
          cases a
          rw [rp_strsOf b q]
          rfl
      | _ => cases e
def oJoin : OM := fun d ds Q => match d, ds with
  | .str a, [.list es] => (match strsOf es with | some ys => (ys.map (·.length)).sum + ys.length * a.length ≤ 16777216 ∧ Q (.val (.str (Txt.join a ys))) | none => False)
  | _, _ => False
theorem ve_join {ob e : Expr} {apos cpos : Pos} {wo w : WE} (ho : VE X W ob wo) (h : VE X W e w) (hbase : attributeBase ob "join" X.env (eval ob X.env) = eval ob X.env := by rfl)
    (hfew : ((backTo cpos (starEach (e :: []) X.env)).all (fun x => !x.1) && (backToKw cpos (keywordEach [] X.env)).all (fun x => x.1.isSome) && decide ((e :: []).length + ([] : List Keyword).length + (if ([] : List Keyword).isEmpty then 0 else 1) < 30)) = true := by rfl)
    (hline : (apos.endLine == cpos.line) = true := by rfl) (hs : starEach (e :: []) X.env = (false, eval e X.env) :: starEach [] X.env := by rfl) (hplain : (backTo cpos (starEach [] X.env)).any (·.1) = false := by rfl) :
    VE X W (.Call (.Attribute ob "join" apos) [e] [] cpos) (wM "str" oJoin wo (wConsA w wNil)) := by
  refine ve_m PySem.F.plainAttrs_str PySem.F.slot_str_join PySem.F.type_str_join mt_join (fun U B H x d vs ds Qv Q hB hu hx hvs ho k => ?_) (.inl rfl) ho (va_cons h va_nil hs) hbase hfew hline hs hplain
  unfold oJoin at ho
  split at ho
  · split at ho
    · rename_i ys q
      cases hx
      cases hvs with
      | cons a r =>
        cases r
        cases a with
        | lst a b =>
          rw [rp_strsOf b q] at a
          exact ⟨_, _, ys, rfl, rfl, .inl (.inl (.inl (hB _ _ a))), ho.1, k _ _ B H [] (Mv.refl hB) (.val (.str _)) ho.2⟩
    · exact ho.elim
  · exact ho.elim
def oStarts : OM := fun d ds Q => match d, ds with
  | .str a, [.str b] => Q (.val (.bool (Txt.startswith a b)))
  | _, _ => False
theorem ve_startswith {ob e : Expr} {apos cpos : Pos} {wo w : WE} (ho : VE X W ob wo) (h : VE X W e w) (hbase : attributeBase ob "startswith" X.env (eval ob X.env) = eval ob X.env := by rfl)
    (hfew : ((backTo cpos (starEach (e :: []) X.env)).all (fun x => !x.1) && (backToKw cpos (keywordEach [] X.env)).all (fun x => x.1.isSome) && decide ((e :: []).length + ([] : List Keyword).length + (if ([] : List Keyword).isEmpty then 0 else 1) < 30)) = true := by rfl)
    (hline : (apos.endLine == cpos.line) = true := by rfl) (hs : starEach (e :: []) X.env = (false, eval e X.env) :: starEach [] X.env := by rfl) (hplain : (backTo cpos (starEach [] X.env)).any (·.1) = false := by rfl) :
    VE X W (.Call (.Attribute ob "startswith" apos) [e] [] cpos) (wM "str" oStarts wo (wConsA w wNil)) := by
  refine ve_m PySem.F.plainAttrs_str PySem.F.slot_str_startswith PySem.F.type_str_startswith mt_startswith (fun U B H x d vs ds Qv Q hB hu hx hvs ho k => ?_) (.inl rfl) ho (va_cons h va_nil hs) hbase hfew hline hs hplain
  unfold oStarts at ho
  split at ho
  · cases hx
    cases hvs with
    | cons a r => cases r; cases a; exact ⟨_, _, rfl, rfl, k _ _ B H [] (Mv.refl hB) (.val (.bl _)) ho⟩
  · exact ho.elim
/-- how often a flat thing stands in a list of flat things -/
def rCntF (K : PySem.W.Frag) : V → List V → Hp → VK → Prop := fun x xs H Q => ∃ (p : Addr) (ys : List V) (y : V), x = .ref p ∧ xs = [y] ∧ SqL K H p ys ∧ flatV y = true ∧ ys.all flatV = true ∧ Q (.int ((ys.countP fun z => eqV z y : Nat))) H
theorem countP_eqU {y : V} : ∀ {ys : List V} {us : List Value}, Vals ys us → ys.all flatV = true → us.countP (eqU y) = ys.countP fun z => eqV z y
  | _, _, .nil, _ => rfl
  | z :: ys, u :: us, .cons r t, f => by
    rw [List.all_cons, Bool.and_eq_true] at f
    rw [List.countP_cons, List.countP_cons, countP_eqU t f.2, eqU_of r f.1]
theorem mt_countF : MtR X "list.count" (rCntF X.K) := by
  intro pins s σ H x xs v us Q I rx rxs h
  obtain ⟨p, ys, y, rfl, rfl, hs, fy, fys, q⟩ := h
  cases rx
  cases rxs with
  | cons ry rt =>
    rename_i uy ut
    cases rt
    obtain ⟨its, rv, ⟨⟨cls, dd, data, sl⟩, n, ho, hc, hdn, hd⟩, hlen⟩ := I.list hs
    simp only at hc hd
    subst hc hd
    refine call_meets PySem.F.slot_list_count ⟨_, ho, rfl⟩ PySem.F.entry_list_count (PySem.F.args_list_count_2 _ _)
      (SeqAt.list_countAt p its.toArray n dd sl uy (eqU y)) ⟨ho, fun u' hu' => mem_eqAt ry fy rv fys u' (by simpa using hu'), ?_⟩
    refine ⟨.int ((ys.countP fun z => eqV z y : Nat)), H, I.tok _, ⟨s.toks, ?_⟩, q⟩
    show Value.int ((its.toArray.toList.countP (eqU y) : Nat) : Int) s.toks = Value.int ((ys.countP (fun z => eqV z y) : Nat) : Int) s.toks
    rw [List.toList_toArray, countP_eqU rv fys]
def oCount : OM := fun d ds Q => match d, ds with
  | .list es, [e] => flatD e = true ∧ es.all flatD = true ∧ Q (.val (.int (es.countP fun z => PyData.eqv z e : Nat)))
  | _, _ => False
theorem rp_count {K : PySem.W.Frag} {H : Hp} {x : V} {d : D} (h : Rp K H x d) (f : flatD d = true) : ∀ {xs : List V} {ds : List D}, RpAll K H xs ds → ds.all flatD = true → xs.all flatV = true ∧ (xs.countP fun z => eqV z x) = ds.countP fun z => PyData.eqv z d
  | _, [], r, _ => by cases r; exact ⟨rfl, rfl⟩
  | _, e :: ds, r, q => by
    cases r with
    | cons a b =>
      rw [List.all_cons, Bool.and_eq_true] at q
      obtain ⟨i1, i2⟩ := rp_count h f b q.2
      refine ⟨by rw [List.all_cons, rp_flat a q.1, i1]; rfl, ?_⟩
      rw [List.countP_cons, List.countP_cons, i2, rp_eqV a h q.1 f]
theorem ve_count {ob e : Expr} {apos cpos : Pos} {wo w : WE} (ho : VE X W ob wo) (h : VE X W e w) (hbase : attributeBase ob "count" X.env (eval ob X.env) = eval ob X.env := by rfl)
    (hfew : ((backTo cpos (starEach (e :: []) X.env)).all (fun x => !x.1) && (backToKw cpos (keywordEach [] X.env)).all (fun x => x.1.isSome) && decide ((e :: []).length + ([] : List Keyword).length + (if ([] : List Keyword).isEmpty then 0 else 1) < 30)) = true := by rfl)
    (hline : (apos.endLine == cpos.line) = true := by rfl) (hs : starEach (e :: []) X.env = (false, eval e X.env) :: starEach [] X.env := by rfl) (hplain : (backTo cpos (starEach [] X.env)).any (·.1) = false := by rfl) :
    VE X W (.Call (.Attribute ob "count" apos) [e] [] cpos) (wM "list" oCount wo (wConsA w wNil)) := by
  refine ve_m PySem.F.plainAttrs_list PySem.F.slot_list_count PySem.F.type_list_count mt_countF (fun U B H x d vs ds Qv Q hB hu hx hvs ho k => ?_) (.inr rfl) ho (va_cons h va_nil hs) hbase hfew hline hs hplain
  unfold oCount at ho
  split at ho
  · cases hx with
    | lst a b =>
      cases hvs with
      | cons c r =>
        cases r
        obtain ⟨h1, h2⟩ := rp_count c ho.1 b ho.2.1
        refine ⟨_, _, _, rfl, rfl, .inl (.inl (hB _ _ a)), rp_flat c ho.1, h1, k _ _ B H [] (Mv.refl hB) (.val (.int _)) ?_⟩
        rw [h2]; exact ho.2.2
  · exact ho.elim
/-- the first place of a flat thing that is there -/
def idxD (es : List D) (e : D) : Option Nat := es.findIdx? fun z => PyData.eqv z e
def oIndex : OM := fun d ds Q => match d, ds with
  | .list es, [e] => flatD e = true ∧ es.all flatD = true ∧ (match idxD es e with | some j => Q (.val (.int (j : Nat))) | none => False)
  | _, _ => False
theorem ve_index {ob e : Expr} {apos cpos : Pos} {wo w : WE} (ho : VE X W ob wo) (h : VE X W e w) (hbase : attributeBase ob "index" X.env (eval ob X.env) = eval ob X.env := by rfl)
    (hfew : ((backTo cpos (starEach (e :: []) X.env)).all (fun x => !x.1) && (backToKw cpos (keywordEach [] X.env)).all (fun x => x.1.isSome) && decide ((e :: []).length + ([] : List Keyword).length + (if ([] : List Keyword).isEmpty then 0 else 1) < 30)) = true := by rfl)
    (hline : (apos.endLine == cpos.line) = true := by rfl) (hs : starEach (e :: []) X.env = (false, eval e X.env) :: starEach [] X.env := by rfl) (hplain : (backTo cpos (starEach [] X.env)).any (·.1) = false := by rfl) :
    VE X W (.Call (.Attribute ob "index" apos) [e] [] cpos) (wM "list" oIndex wo (wConsA w wNil)) := by
  refine ve_m PySem.F.plainAttrs_list PySem.F.slot_list_index PySem.F.type_list_index mt_index (fun U B H x d vs ds Qv Q hB hu hx hvs ho k => ?_) (.inr rfl) ho (va_cons h va_nil hs) hbase hfew hline hs hplain
  unfold oIndex at ho
  split at ho
  · rename_i es e'
    obtain ⟨f1, f2, ho⟩ := ho
    split at ho
    · rename_i j q
      cases hx with
      | lst a b =>
        cases hvs with
        | cons c r =>
          cases r
          obtain ⟨h1, _⟩ := rp_count c f1 b f2
          unfold idxD at q
          rw [List.findIdx?_eq_some_iff_getElem] at q
          obtain ⟨hj, q1, q2⟩ := q
          have at_ : ∀ (m : Nat) (z : V), (hm : m < es.length) → _ → eqV z _ = PyData.eqv es[m] e' := fun m z hm (hz : _ = some z) => by
            obtain ⟨d', e1, e2⟩ := b.get hz
            rw [List.getElem?_eq_getElem hm] at e1
            cases e1
            exact rp_eqV e2 c (List.all_eq_true.mp f2 _ (List.getElem_mem hm)) f1
          obtain ⟨z, hz, _⟩ := b.getD (List.getElem?_eq_getElem hj)
          refine ⟨_, _, _, j, z, rfl, rfl, .inl (.inl (hB _ _ a)), rp_flat c f1, h1, hz, ?_, fun m z' hm hz' => ?_, k _ _ B H [] (Mv.refl hB) (.val (.int _)) ho⟩
          · rw [at_ j z hj hz]; exact q1
          · rw [at_ m z' (by omega) hz']
            have := q2 m hm
            simpa using this
    · exact ho.elim
  · exact ho.elim
/-- the first place of a text within a text, that is there -/
def oIndexS : OM := fun d ds Q => match d, ds with
  | .str a, [.str b] => (match Builtin.Str.occurrences a b 0 a.length 1 with | i :: _ => Q (.val (.int (i : Nat))) | [] => False)
  | _, _ => False
theorem ve_indexS {ob e : Expr} {apos cpos : Pos} {wo w : WE} (ho : VE X W ob wo) (h : VE X W e w) (hbase : attributeBase ob "index" X.env (eval ob X.env) = eval ob X.env := by rfl)
    (hfew : ((backTo cpos (starEach (e :: []) X.env)).all (fun x => !x.1) && (backToKw cpos (keywordEach [] X.env)).all (fun x => x.1.isSome) && decide ((e :: []).length + ([] : List Keyword).length + (if ([] : List Keyword).isEmpty then 0 else 1) < 30)) = true := by rfl)
    (hline : (apos.endLine == cpos.line) = true := by rfl) (hs : starEach (e :: []) X.env = (false, eval e X.env) :: starEach [] X.env := by rfl) (hplain : (backTo cpos (starEach [] X.env)).any (·.1) = false := by rfl) :
    VE X W (.Call (.Attribute ob "index" apos) [e] [] cpos) (wM "str" oIndexS wo (wConsA w wNil)) := by
  refine ve_m PySem.F.plainAttrs_str PySem.F.slot_str_index PySem.F.type_str_index mt_sindex (fun U B H x d vs ds Qv Q hB hu hx hvs ho k => ?_) (.inl rfl) ho (va_cons h va_nil hs) hbase hfew hline hs hplain
  unfold oIndexS at ho
  split at ho
  · split at ho
    · rename_i i rest q
      cases hx
      cases hvs with
      | cons a r => cases r; cases a; exact ⟨_, _, i, rest, rfl, rfl, q, k _ _ B H [] (Mv.refl hB) (.val (.int _)) ho⟩
    · exact ho.elim
  · exact ho.elim
end
end VL

set_option Elab.async false
set_option linter.all false
set_option maxRecDepth 100000
set_option maxHeartbeats 2000000
/-! VN: one's own lists changed; try; of the value layer. -/
namespace VL
open PySem PySem.Spec PyProof.Rows L2

section
variable {K : PySem.W.Frag} {U0 : Option Addr} {B0 H0 : Hp} {U : Option Addr} {ρ : Sts} {σ : L2.St} {B H : Hp} {As : Nat → List Addr}
/-- one of slot i's own lists, at p, is given other content -/
theorem StOk.write (x : StOk K U0 B0 H0 U ρ σ B H As) {i : Nat} {n n' : Nat} {d d' : D} {v : V} {p : Addr} {xs : List V} (e : ρ[i]? = some (.own n d)) (ev : σ[i]? = some (some v)) (hp : p ∈ As i)
    (A' : List Addr) (hA : ∀ a ∈ A', a ∈ As i) (hnd : A'.Nodup) (ow : Own K B (upd H p (.lst xs)) n' d' v A') : StOk K U0 B0 H0 U (ρ.set i (.own n' d')) σ B (upd H p (.lst xs)) (upA As i A') := by
  have hi : i < ρ.length := (List.getElem?_eq_some_iff.mp e).1
  have h0 := x.fr i p hp
  obtain ⟨⟨ys, hH⟩, hB⟩ := x.own_in i p hp
  have eh : Ext B (upd H p (.lst xs)) := fun a o q => by
    have : a ≠ p := fun z => by subst z; rw [hB] at q; cases q
    rw [upd_ne this]; exact x.ext a o q
  have off : ∀ j, j ≠ i → ∀ a ∈ As j, a ≠ p := fun j hj a ha z => hj (x.sp j i a ha (by rw [z]; exact hp))
  refine ⟨by simp [x.len], ⟨x.mv.eb, eh, fun a o q nu => ?_, x.mv.nw, fun u q c => ?_⟩, x.u0, fun j s q => ?_, fun j q => ?_, fun j a ha => ?_, fun j => ?_, fun j k a ha hk => ?_, fun u q j ha => ?_, fun u q => ?_⟩
  · have : a ≠ p := fun z => by subst z; rw [h0] at q; cases q
    rw [upd_ne this]; exact x.mv.kp a o q nu
  · obtain ⟨g, m, t, r, z⟩ := x.mv.ur u q c
    have : u ≠ p := fun z => c.some (by rw [z]; exact h0)
    exact ⟨g, m, t, by rw [upd_ne this]; exact r, z⟩
  · by_cases hj : j = i
    · subst hj
      rw [List.getElem?_set_self hi] at q
      cases q
      rw [upA_same]
      exact ⟨v, ev, ow⟩
    · rw [List.getElem?_set_ne (Ne.symm hj)] at q
      rw [upA_ne hj]
      have z := x.at_ j s q
      cases s with
      | own m t =>
        obtain ⟨w, ew, h⟩ := z
        exact ⟨w, ew, own_mv (Ext.refl _) m t w _ (fun a o ha r => by rw [upd_ne (off j hj a ha)]; exact r) (fun a ha => (x.own_in j a ha).2) h⟩
      | no => exact z
      | val _ => exact z
      | urn => exact z
      | raw _ => exact z
      | scr _ => exact z
  · have hj : j ≠ i := fun z => by subst z; rw [List.getElem?_set_self hi] at q; cases q
    rw [List.getElem?_set_ne (Ne.symm hj)] at q
    rw [upA_ne hj]
    exact x.ot j q
  · by_cases hj : j = i
    · subst hj; rw [upA_same] at ha; exact x.fr j a (hA a ha)
    · rw [upA_ne hj] at ha; exact x.fr j a ha
  · by_cases hj : j = i
    · subst hj; rw [upA_same]; exact hnd
    · rw [upA_ne hj]; exact x.nd j
  · have up : ∀ j, a ∈ upA As i A' j → a ∈ As j := fun j h => by
      by_cases hj : j = i
      · subst hj; rw [upA_same] at h; exact hA a h
      · rw [upA_ne hj] at h; exact h
    exact x.sp j k a (up j ha) (up k hk)
  · by_cases hj : j = i
    · subst hj; rw [upA_same] at ha; exact x.uA u q j (hA u ha)
    · rw [upA_ne hj] at ha; exact x.uA u q j ha
  · obtain ⟨⟨g, m, t, r, z⟩, h2, h3⟩ := x.uC u q
    have : u ≠ p := fun z => x.uA u q i (by rw [z]; exact hp)
    exact ⟨⟨g, m, t, by rw [upd_ne this]; exact r, z⟩, h2, h3⟩
/-- a list of plain things of one's own -/
theorem own1 {ds : List D} {v : V} {A : List Addr} : Own K B H 1 (.list ds) v A ↔ ∃ p xs, v = .ref p ∧ H p = some (.lst xs) ∧ B p = none ∧ A = [p] ∧ RpAll K B xs ds := by
  simp only [Own]
  constructor
  · rintro ⟨p, xs, A', e1, e2, e3, e4, r⟩
    rw [ownAll_zero] at r
    obtain ⟨rfl, r⟩ := r
    exact ⟨p, xs, e1, e2, e3, e4, r⟩
  · rintro ⟨p, xs, e1, e2, e3, e4, r⟩
    exact ⟨p, xs, [], e1, e2, e3, e4, ownAll_zero.mpr ⟨rfl, r⟩⟩
theorem StOk.write1 (x : StOk K U0 B0 H0 U ρ σ B H As) {i : Nat} {ds es : List D} (e : ρ[i]? = some (.own 1 (.list ds))) : ∃ p xs, σ[i]? = some (some (.ref p)) ∧ H p = some (.lst xs) ∧ RpAll K B xs ds ∧ (∀ a, U = some a → a ≠ p) ∧
    ∀ ys, RpAll K B ys es → StOk K U0 B0 H0 U (ρ.set i (.own 1 (.list es))) σ B (upd H p (.lst ys)) (upA As i [p]) := by
  obtain ⟨v, ev, ow⟩ := x.at_ i _ e
  rw [own1] at ow
  obtain ⟨p, xs, rfl, h1, h2, h3, r⟩ := ow
  refine ⟨p, xs, ev, h1, r, fun a q z => x.uA a q i (by rw [z, h3]; simp), fun ys hy => ?_⟩
  exact x.write e ev (by rw [h3]; simp) [p] (fun a ha => by rw [h3]; exact ha) (by simp) (own1.mpr ⟨p, ys, rfl, upd_same, h2, rfl, hy⟩)
end

section
variable {X : Cx} {W : WX} {pos : Pos}
/-- the slot holds a list of one's own -/
def own1At (i : Nat) (ρ : Sts) : Option (List D) := match ρ[i]? with
  | some (.own 1 (.list ds)) => some ds
  | _ => none
theorem own1At_eq {i : Nat} {ρ : Sts} {ds : List D} (h : own1At i ρ = some ds) : ρ[i]? = some (.own 1 (.list ds)) := by
  unfold own1At at h
  split at h
  · cases h; assumption
  · cases h
/-- the slot's own list is there while an argument is reckoned -/
theorem own_there {K : PySem.W.Frag} {U0 : Option Addr} {B0 H0 : Hp} {U : Option Addr} {ρ : Sts} {σ : L2.St} {B H : Hp} {As : Nat → List Addr} (x : StOk K U0 B0 H0 U ρ σ B H As) {i : Nat} {ds : List D} (e : ρ[i]? = some (.own 1 (.list ds))) :
    ∃ p xs, σ[i]? = some (some (.ref p)) ∧ H p = some (.lst xs) := by
  obtain ⟨p, xs, h1, h2, _⟩ := x.write1 (es := ds) e
  exact ⟨p, xs, h1, h2⟩
/-- x.append(e), x one's own -/
def wApp (i : Nat) (wa : WA) : WS := fun D ρ => match own1At i ρ with
  | some ds => wDats wa ρ (fun es => match es with
    | [d] => ds.length < sizeLine ∧ D.nx (ρ.set i (.own 1 (.list (ds ++ [d]))))
    | _ => False) D.ex
  | none => False
theorem vs_append (i : Nat) {x : Str} {e : Expr} {p apos cpos : Pos} {w : WE} (h : VE X W e w) (hN : X.N[i]? = some x := by rfl) (hv : Vis X.env.scope x := by first | exact Or.inl rfl | exact Or.inr (Or.inl rfl) | exact Or.inr (Or.inr rfl)) (hd : (x == ("__debug__" : Str)) = false := by decide) (hcd : (x == ("__classdict__" : Str)) = false := by decide)
    (hbase : attributeBase (.Name x p) "append" X.env (eval (.Name x p) X.env) = eval (.Name x p) X.env := by rfl)
    (hfew : ((backTo cpos (starEach (e :: []) X.env)).all (fun x => !x.1) && (backToKw cpos (keywordEach [] X.env)).all (fun x => x.1.isSome) && decide ((e :: []).length + ([] : List Keyword).length + (if ([] : List Keyword).isEmpty then 0 else 1) < 30)) = true := by rfl)
    (hline : (apos.endLine == cpos.line) = true := by rfl) (hs : starEach (e :: []) X.env = (false, eval e X.env) :: starEach [] X.env := by rfl) (hplain : (backTo cpos (starEach [] X.env)).any (·.1) = false := by rfl)
    (hsw : swapsWith (.Call (.Attribute (.Name x p) "append" apos) [e] [] cpos) none pos.line X.env = pure false := by rfl) :
    VS X W (.Expr (.Call (.Attribute (.Name x p) "append" apos) [e] [] cpos) pos) (wApp i (wConsA w wNil)) := by
  obtain ⟨t, q, s⟩ := (va_cons h va_nil hs).ex
  refine ⟨_, ps_expr (pe_bm PySem.F.plainAttrs_list PySem.F.slot_list_append PySem.F.type_list_append mt_append (pe_var hN hv hd hcd) q hbase hfew hline hs hplain) hsw, fun U0 B0 H0 U ρ σ B H As Dv Dn x hw kn _ _ _ ke => ?_⟩
  unfold wApp at hw
  split at hw
  · rename_i ds e0
    have e0 := own1At_eq e0
    obtain ⟨p1, xs1, g1, g2⟩ := own_there x e0
    refine ⟨_, g1, .inl ⟨rfl, xs1, .inl (.inl g2)⟩, ?_⟩
    refine s.dats x hw (fun es vs B1 H1 m r q => ?_) fun c B' H' m q => ke c U ρ σ B' H' As (x.step m) q
    split at q
    · cases r with
      | cons a r =>
        cases r
        have y := x.step m
        obtain ⟨p2, xs2, k1, k2, k3, _, k4⟩ := y.write1 (es := ds ++ _) e0
        rw [g1] at k1; cases k1
        exact ⟨p1, xs2, _, rfl, rfl, k2, by rw [k3.len]; exact q.1, kn U _ σ B1 _ _ (k4 _ (k3.append (.cons a .nil))) m.eb q.2⟩
    · exact q.elim
  · exact hw.elim
/-- x.extend(e) -/
def wExt (i : Nat) (wa : WA) : WS := fun D ρ => match own1At i ρ with
  | some ds => wDats wa ρ (fun es => match es with
    | [.list d] => ds.length + d.length ≤ sizeLine ∧ D.nx (ρ.set i (.own 1 (.list (ds ++ d))))
    | _ => False) D.ex
  | none => False
theorem vs_extend (i : Nat) {x : Str} {e : Expr} {p apos cpos : Pos} {w : WE} (h : VE X W e w) (hN : X.N[i]? = some x := by rfl) (hv : Vis X.env.scope x := by first | exact Or.inl rfl | exact Or.inr (Or.inl rfl) | exact Or.inr (Or.inr rfl)) (hd : (x == ("__debug__" : Str)) = false := by decide) (hcd : (x == ("__classdict__" : Str)) = false := by decide)
    (hbase : attributeBase (.Name x p) "extend" X.env (eval (.Name x p) X.env) = eval (.Name x p) X.env := by rfl)
    (hfew : ((backTo cpos (starEach (e :: []) X.env)).all (fun x => !x.1) && (backToKw cpos (keywordEach [] X.env)).all (fun x => x.1.isSome) && decide ((e :: []).length + ([] : List Keyword).length + (if ([] : List Keyword).isEmpty then 0 else 1) < 30)) = true := by rfl)
    (hline : (apos.endLine == cpos.line) = true := by rfl) (hs : starEach (e :: []) X.env = (false, eval e X.env) :: starEach [] X.env := by rfl) (hplain : (backTo cpos (starEach [] X.env)).any (·.1) = false := by rfl)
    (hsw : swapsWith (.Call (.Attribute (.Name x p) "extend" apos) [e] [] cpos) none pos.line X.env = pure false := by rfl) :
    VS X W (.Expr (.Call (.Attribute (.Name x p) "extend" apos) [e] [] cpos) pos) (wExt i (wConsA w wNil)) := by
  obtain ⟨t, q, s⟩ := (va_cons h va_nil hs).ex
  refine ⟨_, ps_expr (pe_bm PySem.F.plainAttrs_list PySem.F.slot_list_extend PySem.F.type_list_extend mt_extend (pe_var hN hv hd hcd) q hbase hfew hline hs hplain) hsw, fun U0 B0 H0 U ρ σ B H As Dv Dn x hw kn _ _ _ ke => ?_⟩
  unfold wExt at hw
  split at hw
  · rename_i ds e0
    have e0 := own1At_eq e0
    obtain ⟨p1, xs1, g1, g2⟩ := own_there x e0
    refine ⟨_, g1, .inl ⟨rfl, xs1, .inl (.inl g2)⟩, ?_⟩
    refine s.dats x hw (fun es vs B1 H1 m r q => ?_) fun c B' H' m q => ke c U ρ σ B' H' As (x.step m) q
    split at q
    · cases r with
      | cons a r =>
        cases r
        have y := x.step m
        obtain ⟨p2, xs2, k1, k2, k3, _, k4⟩ := y.write1 (es := ds ++ _) e0
        rw [g1] at k1; cases k1
        cases a with
        | lst a b => exact ⟨p1, _, xs2, _, rfl, rfl, k2, m.eh _ _ a, by rw [k3.len, b.len]; exact q.1, kn U _ σ B1 _ _ (k4 _ (k3.append b)) m.eb q.2⟩
    · exact q.elim
  · exact hw.elim
/-- x[i] = e, x one's own -/
def gwSub (k : Nat) (wi : WE) : WG := fun d ρ Q E => match own1At k ρ with
  | some ds => dOf wi ρ (fun j => match j with
    | .int j => (match ixN ds.length j with | some m => Q (ρ.set k (.own 1 (.list (ds.set m d)))) | none => False)
    | _ => False) E
  | none => False
theorem RpAll.set {K : PySem.W.Frag} {H : Hp} : ∀ {xs : List V} {ds : List D} {x : V} {d : D} (i : Nat), RpAll K H xs ds → Rp K H x d → RpAll K H (xs.set i x) (ds.set i d)
  | _, [], _, _, i, h, _ => by cases h; simp; exact .nil
  | _, d :: ds, _, _, 0, h, r => by cases h with | cons a b => exact .cons r b
  | _, d :: ds, _, _, i + 1, h, r => by cases h with | cons a b => exact .cons a (RpAll.set i b r)
theorem vg_sub (k : Nat) {x : Str} {i : Expr} {p : Pos} {wi : WE} (hi : VE X W i wi) (hN : X.N[k]? = some x := by rfl) (hv : Vis X.env.scope x := by first | exact Or.inl rfl | exact Or.inr (Or.inl rfl) | exact Or.inr (Or.inr rfl)) (hd : (x == ("__debug__" : Str)) = false := by decide) (hcd : (x == ("__classdict__" : Str)) = false := by decide)
    (ha : ∀ v, assign (.Subscript (.Name x p) i pos) X.env v = (do
      let ov ← holding [v] (eval (.Name x p) X.env)
      let iv ← holding [v, ov] (eval i X.env)
      standAt pos
      holding [v, ov, iv] (setItem ov iv v)
      release [v, ov, iv] []) := by intro _; rfl) : VG X W (.Subscript (.Name x p) i pos) (gwSub k wi) := by
  obtain ⟨t, q, s⟩ := hi.ex
  refine ⟨_, pg_sub (pe_var hN hv hd hcd) q set_list ha, fun U0 B0 H0 U ρ σ B H As d v Qv Ev Q x r hw kn ke => ?_⟩
  unfold gwSub at hw
  split at hw
  · rename_i ds e0
    have e0 := own1At_eq e0
    obtain ⟨p1, xs1, g1, g2⟩ := own_there x e0
    refine ⟨_, g1, s.dat x hw (fun j u B1 H1 m r1 q => ?_) fun c B' H' m q => ke c ρ σ B' H' As (x.step m) q⟩
    split at q
    · split at q
      · rename_i m' hm
        cases r1
        have y := x.step m
        obtain ⟨p2, xs2, k1, k2, k3, _, k4⟩ := y.write1 (es := ds.set m' d) e0
        rw [g1] at k1; cases k1
        exact ⟨p1, xs2, _, m', rfl, rfl, k2, by rw [k3.len]; exact hm, kn _ σ B1 _ _ (k4 _ (k3.set m' (dp_ext m.eb _ _ r))) m.eb q⟩
      · exact q.elim
    · exact q.elim
  · exact hw.elim
/-- y = x.pop() , (a, b) = x.pop(), x one's own -/
def wPop (i : Nat) (g : WG) : WS := fun D ρ => match own1At i ρ with
  | some ds => (match ds[ds.length - 1]? with | some d => g d (ρ.set i (.own 1 (.list ds.dropLast))) D.nx D.ex | none => False)
  | none => False
theorem RpAll.dropLast {K : PySem.W.Frag} {H : Hp} {xs : List V} {ds : List D} (h : RpAll K H xs ds) : RpAll K H xs.dropLast ds.dropLast := by
  rw [List.dropLast_eq_take, List.dropLast_eq_take, h.len]
  exact h.take _
theorem vs_pop (i : Nat) {x : Str} {tg : Expr} {g : WG} {p apos cpos : Pos} (hg : VG X W tg g) (hN : X.N[i]? = some x := by rfl) (hv : Vis X.env.scope x := by first | exact Or.inl rfl | exact Or.inr (Or.inl rfl) | exact Or.inr (Or.inr rfl)) (hd : (x == ("__debug__" : Str)) = false := by decide) (hcd : (x == ("__classdict__" : Str)) = false := by decide)
    (hbase : attributeBase (.Name x p) "pop" X.env (eval (.Name x p) X.env) = eval (.Name x p) X.env := by rfl) (hline : (apos.endLine == cpos.line) = true := by rfl)
    (hs : swapsWithSole [tg] (.Call (.Attribute (.Name x p) "pop" apos) [] [] cpos) pos.line X.env = pure false := by rfl) (hw : swappedStores [tg] (.Call (.Attribute (.Name x p) "pop" apos) [] [] cpos) X.env = pure none := by rfl)
    (h1 : (assignEach [tg] X.env).map (·.2) = [assign tg X.env] := by rfl) : VS X W (.Assign [tg] (.Call (.Attribute (.Name x p) "pop" apos) [] [] cpos) pos) (wPop i g) := by
  obtain ⟨t, q, s⟩ := hg.ex
  refine ⟨_, ps_asg (pe_bm0 PySem.F.plainAttrs_list PySem.F.slot_list_pop PySem.F.type_list_pop mt_pop (pe_var hN hv hd hcd) hbase hline) q hs hw h1, fun U0 B0 H0 U ρ σ B H As Dv Dn x hw kn _ _ _ ke => ?_⟩
  unfold wPop at hw
  split at hw
  · rename_i ds e0
    have e0 := own1At_eq e0
    split at hw
    · rename_i d e1
      obtain ⟨p1, xs1, g1, g2, g3, _, g4⟩ := x.write1 (es := ds.dropLast) e0
      obtain ⟨y, h2, h3⟩ := g3.getD e1
      refine ⟨_, g1, .inl ⟨rfl, xs1, .inl (.inl g2)⟩, p1, xs1, y, rfl, rfl, g2, by rw [g3.len]; exact h2, ?_⟩
      exact s U0 B0 H0 U _ σ B _ _ d y _ _ _ (g4 _ g3.dropLast) h3 hw (fun ρ' σ' B' H' As' z e q => kn U ρ' σ' B' H' As' z e q) fun c ρ' σ' B' H' As' z q => ke c U ρ' σ' B' H' As' z q
    · exact hw.elim
  · exact hw.elim
/-- x.pop() -/
def wPopN (i : Nat) : WS := fun D ρ => match own1At i ρ with
  | some ds => ds ≠ [] ∧ D.nx (ρ.set i (.own 1 (.list ds.dropLast)))
  | none => False
theorem vs_popN (i : Nat) {x : Str} {p apos cpos : Pos} (hN : X.N[i]? = some x := by rfl) (hv : Vis X.env.scope x := by first | exact Or.inl rfl | exact Or.inr (Or.inl rfl) | exact Or.inr (Or.inr rfl)) (hd : (x == ("__debug__" : Str)) = false := by decide) (hcd : (x == ("__classdict__" : Str)) = false := by decide)
    (hbase : attributeBase (.Name x p) "pop" X.env (eval (.Name x p) X.env) = eval (.Name x p) X.env := by rfl) (hline : (apos.endLine == cpos.line) = true := by rfl)
    (hsw : swapsWith (.Call (.Attribute (.Name x p) "pop" apos) [] [] cpos) none pos.line X.env = pure false := by rfl) : VS X W (.Expr (.Call (.Attribute (.Name x p) "pop" apos) [] [] cpos) pos) (wPopN i) := by
  refine ⟨_, ps_expr (pe_bm0 PySem.F.plainAttrs_list PySem.F.slot_list_pop PySem.F.type_list_pop mt_pop (pe_var hN hv hd hcd) hbase hline) hsw, fun U0 B0 H0 U ρ σ B H As Dv Dn x hw kn _ _ _ ke => ?_⟩
  unfold wPopN at hw
  split at hw
  · rename_i ds e0
    have e0 := own1At_eq e0
    obtain ⟨p1, xs1, g1, g2, g3, _, g4⟩ := x.write1 (es := ds.dropLast) e0
    have hl : ds.length - 1 < ds.length := by have := List.length_pos_iff.mpr hw.1; omega
    obtain ⟨y, h2, h3⟩ := g3.getD (List.getElem?_eq_getElem hl)
    exact ⟨_, g1, .inl ⟨rfl, xs1, .inl (.inl g2)⟩, p1, xs1, y, rfl, rfl, g2, by rw [g3.len]; exact h2, kn U _ σ B _ _ (g4 _ g3.dropLast) (Ext.refl _) hw.2⟩
  · exact hw.elim
/-- x[i] read, x one's own -/
def wOwnIx (k : Nat) (wi : WE) : WE := fun ρ Q E => match own1At k ρ with
  | some ds => dOf wi ρ (fun j => match j with
    | .int j => (match atI ds j with | some d => Q (.val d) | none => False)
    | _ => False) E
  | none => False
theorem ve_ownIx (k : Nat) {x : Str} {i : Expr} {p : Pos} {wi : WE} (hs : PlainIx i) (hi : VE X W i wi) (hN : X.N[k]? = some x := by rfl) (hv : Vis X.env.scope x := by first | exact Or.inl rfl | exact Or.inr (Or.inl rfl) | exact Or.inr (Or.inr rfl)) (hd : (x == ("__debug__" : Str)) = false := by decide) (hcd : (x == ("__classdict__" : Str)) = false := by decide) :
    VE X W (.Subscript (.Name x p) i pos) (wOwnIx k wi) := by
  obtain ⟨t, q, s⟩ := hi.ex
  refine ⟨_, pe_ix ix_seq (pe_var hN hv hd hcd) q hs, fun U0 B0 H0 U ρ σ B H As Qv Ev Q x hw kq ke => ?_⟩
  unfold wOwnIx at hw
  split at hw
  · rename_i ds e0
    have e0 := own1At_eq e0
    obtain ⟨p1, xs1, g1, g2⟩ := own_there x e0
    refine ⟨_, g1, s.dat x hw (fun j u B1 H1 m r1 q => ?_) ke⟩
    split at q
    · split at q
      · rename_i d hd
        cases r1
        have y := x.step m
        obtain ⟨p2, xs2, k1, k2, k3, _, _⟩ := y.write1 (es := ds) e0
        rw [g1] at k1; cases k1
        obtain ⟨z, z1, z2⟩ := atI_rp k3 hd
        exact .inl ⟨p1, xs2, _, z, rfl, rfl, .inl (.inl k2), z1, kq _ _ B1 H1 [] m (.val z2) q⟩
      · exact q.elim
    · exact q.elim
  · exact hw.elim

/-! ### a look at one's own lists: the answer holds no list -/
mutual
def noL : D → Bool
  | .list _ => false
  | .tuple ds => noLs ds
  | _ => true
def noLs : List D → Bool
  | [] => true
  | d :: ds => noL d && noLs ds
end
def frzAll (ρ : Sts) : Sts := ρ.map frzS
mutual
theorem noL_rp {K : PySem.W.Frag} {B B' : Hp} (h : ∀ a xs, SqT K B a xs → SqT K B' a xs) : ∀ (d : D) (v : V), noL d = true → Rp K B v d → Rp K B' v d
  | .none, _, _, x => by cases x; exact .non
  | .bool _, _, _, x => by cases x; exact .bl _
  | .int _, _, _, x => by cases x; exact .int _
  | .str _, _, _, x => by cases x; exact .str _
  | .list ds, _, n, _ => by cases n
  | .tuple ds, _, n, x => by cases x with | tup a b => exact .tup (h _ _ a) (noLs_rp h ds _ n b)
  | .dict _, _, _, x => by cases x
theorem noLs_rp {K : PySem.W.Frag} {B B' : Hp} (h : ∀ a xs, SqT K B a xs → SqT K B' a xs) : ∀ (ds : List D) (vs : List V), noLs ds = true → RpAll K B vs ds → RpAll K B' vs ds
  | [], _, _, x => by cases x; exact .nil
  | d :: ds, _, n, x => by
    have n' : (noL d && noLs ds) = true := n
    rw [Bool.and_eq_true] at n'
    cases x with | cons a b => exact .cons (noL_rp h d _ n'.1 a) (noLs_rp h ds _ n'.2 b)
end
def wPeek (w : WE) : WE := fun ρ Q E => dOf w (frzAll ρ) (fun d => noL d = true ∧ Q (.val d)) E
theorem StOk.frzAll {K : PySem.W.Frag} {U0 : Option Addr} {B0 H0 : Hp} {U : Option Addr} {ρ : Sts} {σ : L2.St} {B H : Hp} {As : Nat → List Addr} (x : StOk K U0 B0 H0 U ρ σ B H As) :
    ∃ L : List Addr, (∀ a ∈ L, ∃ xs, H a = some (.lst xs)) ∧ (∀ a ∈ L, B a = none) ∧ (∀ u, U = some u → u ∉ L) ∧ StOk K U0 B0 H0 U (frzAll ρ) σ (Bu B H L) H (fun _ => []) := by
  refine ⟨((List.range ρ.length).map As).flatten, fun a ha => ?_, fun a ha => ?_, fun u hu ha => ?_, ?_⟩
  · obtain ⟨l, hl, ha⟩ := List.mem_flatten.mp ha
    obtain ⟨i, _, rfl⟩ := List.mem_map.mp hl
    exact (x.own_in i a ha).1
  · obtain ⟨l, hl, ha⟩ := List.mem_flatten.mp ha
    obtain ⟨i, _, rfl⟩ := List.mem_map.mp hl
    exact (x.own_in i a ha).2
  · obtain ⟨l, hl, ha⟩ := List.mem_flatten.mp ha
    obtain ⟨i, _, rfl⟩ := List.mem_map.mp hl
    exact x.uA u hu i ha
  · have mem : ∀ i a, a ∈ As i → i < ρ.length → a ∈ ((List.range ρ.length).map As).flatten := fun i a ha hi => List.mem_flatten.mpr ⟨As i, List.mem_map.mpr ⟨i, List.mem_range.mpr hi, rfl⟩, ha⟩
    have nL : ∀ a, a ∈ ((List.range ρ.length).map As).flatten → H0 a = none ∧ ∀ u, U = some u → u ≠ a := fun a ha => by
      obtain ⟨l, hl, ha⟩ := List.mem_flatten.mp ha
      obtain ⟨i, _, rfl⟩ := List.mem_map.mp hl
      exact ⟨x.fr i a ha, fun u hu z => x.uA u hu i (by rw [z]; exact ha)⟩
    have eb : Ext B (Bu B H ((List.range ρ.length).map As).flatten) := Bu.base x.ext
    refine ⟨by simp [VL.frzAll, x.len], ⟨x.mv.eb.trans eb, Bu.ext x.ext, x.mv.kp, fun a o e => ?_, x.mv.ur⟩, x.u0, fun i s e => ?_, fun _ _ => rfl, fun _ _ h => (nomatch h), fun _ => List.nodup_nil, fun _ _ _ h => (nomatch h), fun _ _ _ h => (nomatch h), fun u hu => ?_⟩
    · by_cases ha : a ∈ ((List.range ρ.length).map As).flatten
      · exact .inr (nL a ha).1
      · rw [Bu.out ha] at e; exact x.mv.nw a o e
    · unfold VL.frzAll at e
      rw [List.getElem?_map] at e
      cases q : ρ[i]? with
      | none => rw [q] at e; cases e
      | some s' =>
        rw [q] at e
        cases e
        have hi : i < ρ.length := (List.getElem?_eq_some_iff.mp q).1
        have z := x.at_ i s' q
        cases s' with
        | no => exact rfl
        | val d => obtain ⟨_, v, e1, e2⟩ := z; exact ⟨rfl, v, e1, dp_ext eb _ _ e2⟩
        | own n d => obtain ⟨v, e1, e2⟩ := z; exact ⟨rfl, v, e1, own_frz eb n d v _ (fun a ha => Bu.in_ (mem i a ha hi)) e2⟩
        | urn => exact ⟨rfl, z.2⟩
        | raw v => exact ⟨rfl, z.2⟩
        | scr ns => obtain ⟨_, a, e1, e2⟩ := z; exact ⟨rfl, a, e1, sqL_ext eb e2⟩
    · obtain ⟨h1, h2, h3⟩ := x.uC u hu
      refine ⟨h1, ?_, h3⟩
      rw [Bu.out fun ha => (nL u ha).2 u hu rfl]
      exact h2
theorem ve_peek {e : Expr} {w : WE} (h : VE X W e w) : VE X W e (wPeek w) := by
  obtain ⟨t, p, s⟩ := h.ex
  refine ⟨t, p, fun U0 B0 H0 U ρ σ B H As Qv Ev Q x hw kq ke => ?_⟩
  obtain ⟨L, hL, hB, hU, y⟩ := x.frzAll
  -- the base without them again
  have down : ∀ {B' H'}, Mv U (Bu B H L) H B' H' → Mv U B H (fun a => if a ∈ L then none else B' a) H' ∧ ∀ a xs, SqT X.K B' a xs → SqT X.K (fun a => if a ∈ L then none else B' a) a xs := fun {B' H'} m => by
    have out : ∀ a o, (if a ∈ L then none else B' a) = some o → a ∉ L ∧ B' a = some o := fun a o e => by
      by_cases ha : a ∈ L
      · rw [if_pos ha] at e; cases e
      · rw [if_neg ha] at e; exact ⟨ha, e⟩
    refine ⟨⟨fun a o e => ?_, fun a o e => m.eh a o (out a o e).2, m.kp, fun a o e => ?_, m.ur⟩, fun a xs st => ?_⟩
    · have ha : a ∉ L := fun z => by rw [hB a z] at e; cases e
      show (if a ∈ L then none else B' a) = some o
      rw [if_neg ha]
      exact m.eb a o (by rw [Bu.out ha]; exact e)
    · obtain ⟨ha, e⟩ := out a o e
      rcases m.nw a o e with z | z
      · rw [Bu.out ha] at z; exact .inl z
      · exact .inr z
    · have ha : ∀ u, B' a = some u → (∀ l, u ≠ .lst l) → a ∉ L := fun u e n z => by
        obtain ⟨l, q⟩ := hL a z
        have := m.eb a _ (show Bu B H L a = some (.lst l) by rw [Bu.in_ z]; exact q)
        rw [e] at this
        exact n l (Option.some.inj this)
      rcases st with (st | ⟨o, st⟩) | st
      · refine .inl (.inl ?_)
        show (if a ∈ L then none else B' a) = _
        rw [if_neg (ha _ st fun l z => by cases z)]; exact st
      · refine .inl (.inr ⟨o, ?_⟩)
        show (if a ∈ L then none else B' a) = _
        rw [if_neg (ha _ st fun l z => by cases z)]; exact st
      · exact .inr st
  refine s.dat y hw (fun d v B' H' m r q => ?_) fun c B' H' m q => ke c _ H' (down m).1 q
  obtain ⟨m', st⟩ := down m
  exact kq _ v _ H' [] m' (.val (noL_rp st d v q.1 r)) q.2
end
end VL
namespace VL
open PySem PySem.Spec PyProof.Rows L2
section
variable {X : Cx} {W : WX} {pos : Pos}
def wPeekT (w : WT) : WT := fun ρ Q E => w (frzAll ρ) Q E
theorem vt_peek {e : Expr} {w : WT} (h : VT X W e w) : VT X W e (wPeekT w) := by
  obtain ⟨t, p, s⟩ := h.ex
  refine ⟨t, p, fun U0 B0 H0 U ρ σ B H As Qv Ev Q x hw kq ke => ?_⟩
  obtain ⟨L, hL, hB, hU, y⟩ := x.frzAll
  have down : ∀ {B' H'}, Mv U (Bu B H L) H B' H' → Mv U B H (fun a => if a ∈ L then none else B' a) H' := fun {B' H'} m => by
    have out : ∀ a o, (if a ∈ L then none else B' a) = some o → a ∉ L ∧ B' a = some o := fun a o e => by
      by_cases ha : a ∈ L
      · rw [if_pos ha] at e; cases e
      · rw [if_neg ha] at e; exact ⟨ha, e⟩
    refine ⟨fun a o e => ?_, fun a o e => m.eh a o (out a o e).2, m.kp, fun a o e => ?_, m.ur⟩
    · have ha : a ∉ L := fun z => by rw [hB a z] at e; cases e
      show (if a ∈ L then none else B' a) = some o
      rw [if_neg ha]
      exact m.eb a o (by rw [Bu.out ha]; exact e)
    · obtain ⟨ha, e⟩ := out a o e
      rcases m.nw a o e with z | z
      · rw [Bu.out ha] at z; exact .inl z
      · exact .inr z
  exact s _ _ _ _ _ _ _ _ _ _ _ _ y hw (fun b B' H' m q => kq b _ H' (down m) q) fun c B' H' m q => ke c _ H' (down m) q
/-- the name in slot i -/
theorem vv (i : Nat) {x : Str} {pos : Pos} (hN : X.N[i]? = some x := by rfl) (hv : Vis X.env.scope x := by first | exact Or.inl rfl | exact Or.inr (Or.inl rfl) | exact Or.inr (Or.inr rfl)) (hd : (x == ("__debug__" : Str)) = false := by decide)
    (hcd : (x == ("__classdict__" : Str)) = false := by decide) : VE X W (.Name x pos) (wVar i) := ve_var hN hv hd hcd
end
end VL
namespace VL
open PySem PySem.Spec PyProof.Rows L2
/-! ### facts of the module -/
/-- the module's name x stands for the data d -/
def ConstF (K : PySem.W.Frag) (mg : Str → Option Value) (x : Str) (d : D) : Prop := ∃ u v, mg x = some u ∧ RelV v u ∧ ∀ B, Rp K B v d
theorem constF_int {K : PySem.W.Frag} {mg : Str → Option Value} {x : Str} {i : Int} (h : ∃ t, mg x = some (.int i t)) : ConstF K mg x (.int i) := by
  obtain ⟨t, h⟩ := h
  exact ⟨_, .int i, h, ⟨t, rfl⟩, fun _ => .int _⟩
theorem constF_str {K : PySem.W.Frag} {mg : Str → Option Value} {x z : Str} (h : ∃ t, mg x = some (.str z t)) : ConstF K mg x (.str z) := by
  obtain ⟨t, h⟩ := h
  exact ⟨_, .str z, h, ⟨t, rfl⟩, fun _ => .str _⟩
theorem constF_dat {K : PySem.W.Frag} {mg : Str → Option Value} {x : Str} {a : Addr} {d : D} (h : mg x = some (.ref a)) (r : ∀ B, Rp K B (.ref a) d) : ConstF K mg x d := ⟨_, .ref a, h, rfl, r⟩
section
variable {X : Cx} {W : WX} {pos : Pos}
theorem ve_const {x : Str} {d : D} (h : ConstF X.K X.mg x d) (hg : Gl X x) (hd : (x == ("__debug__" : Str)) = false := by decide) : VE X W (.Name x pos) (wC d) := by
  obtain ⟨u, v, hm, r, q⟩ := h
  exact ve_glob hg hm r q hd
end
/-- what raising the module's class x wants -/
structure RaiseF (K : PySem.W.Frag) (mg : Str → Option Value) (x : Str) : Prop where
  g : mg x = some (.ref (He.ga K x))
  e : PySem.W.excIn K (He.ga K x) He.veBase "ValueError.__new__" = true
  k : PySem.W.keepIn K (.ref (He.ga K x)) = true
  b : PySem.W.subIn K (.ref (He.ga K x)) (.type "BaseException") = some true
  t : PySem.W.typeIn K (.ref (He.ga K x)) = some (.type "type")
theorem raiseF_of {K : PySem.W.Frag} {mg : Str → Option Value} {x : Str} (g : mg x = some (.ref (He.ga K x))) (h : PySem.W.excIn K (He.ga K x) He.veBase "ValueError.__new__" = true ∧ PySem.W.keepIn K (.ref (He.ga K x)) = true ∧ PySem.W.subIn K (.ref (He.ga K x)) (.type "BaseException") = some true ∧
    PySem.W.typeIn K (.ref (He.ga K x)) = some (.type "type")) : RaiseF K mg x := ⟨g, h.1, h.2.1, h.2.2.1, h.2.2.2⟩
theorem pmk_of {X : Cx} {x m : Str} {j : Nat} {p p2 pos : Pos} (h : RaiseF X.K X.mg x) (hg : Gl X x) (hdb : (x == ("__debug__" : Str)) = false := by decide) : PMk X (.Call (.Name x p) [.Constant (.str m) j p2] [] pos) (fun _ H Q => Q (.ref (He.ga X.K x)) none H) :=
  pmk_own PySem.F.excBase_ValueError h.e h.g h.k (raises_own h.b h.t) hg hdb
end VL

set_option Elab.async false
set_option linter.all false
set_option maxRecDepth 100000
set_option maxHeartbeats 2000000
/-! VU: the urn: lent from a list of one's own; the promises of _law_urn and _law_draw. -/
namespace VL
open PySem PySem.Spec PyProof.Rows L2
section
variable {K : PySem.W.Frag} {U0 : Option Addr} {B0 H0 : Hp} {U : Option Addr} {ρ : Sts} {σ : L2.St} {B H : Hp} {As : Nat → List Addr}
def urnOk (g m q : Int) : Prop := 0 ≤ g ∧ 0 ≤ m ∧ m < 2147483648 ∧ 0 < q ∧ q < 2147483648
theorem StOk.lend (x : StOk K U0 B0 H0 U ρ σ B H As) {i : Nat} {g m q : Int} (e : ρ[i]? = some (.own 1 (.list [.int g, .int m, .int q]))) (h : urnOk g m q) (hn : ∀ j, j ≠ i → ρ[j]? ≠ some .urn) : ∃ U', StOk K U0 B0 H0 U' (ρ.set i .urn) σ B H (upA As i []) := by
  have hi : i < ρ.length := (List.getElem?_eq_some_iff.mp e).1
  obtain ⟨v, ev, ow⟩ := x.at_ i _ e
  rw [own1] at ow
  obtain ⟨p, xs, rfl, h1, h2, h3, r⟩ := ow
  have hxs : xs = [.int g, .int m, .int q] := by
    cases r with
    | cons a r =>
      cases r with
      | cons b r =>
        cases r with
        | cons c r => cases r; cases a; cases b; cases c; rfl
  subst hxs
  have h0 := x.fr i p (by rw [h3]; simp)
  refine ⟨some p, ⟨by simp [x.len], x.mv, x.u0, fun j s q' => ?_, fun j q' => ?_, fun j a ha => ?_, fun j => ?_, fun j k a ha hk => ?_, fun u hu j ha => ?_, fun u hu => ?_⟩⟩
  · by_cases hj : j = i
    · subst hj
      rw [List.getElem?_set_self hi] at q'
      cases q'
      rw [upA_same]
      exact ⟨rfl, p, rfl, ev⟩
    · rw [List.getElem?_set_ne (Ne.symm hj)] at q'
      rw [upA_ne hj]
      have z := x.at_ j s q'
      cases s with
      | urn => exact absurd q' (hn j hj)
      | own n d => exact z
      | no => exact z
      | val _ => exact z
      | raw _ => exact z
      | scr _ => exact z
  · have hj : j ≠ i := fun z => by subst z; rw [List.getElem?_set_self hi] at q'; cases q'
    rw [List.getElem?_set_ne (Ne.symm hj)] at q'
    rw [upA_ne hj]; exact x.ot j q'
  · by_cases hj : j = i
    · subst hj; rw [upA_same] at ha; cases ha
    · rw [upA_ne hj] at ha; exact x.fr j a ha
  · by_cases hj : j = i
    · subst hj; rw [upA_same]; exact List.nodup_nil
    · rw [upA_ne hj]; exact x.nd j
  · by_cases hj : j = i
    · subst hj; rw [upA_same] at ha; cases ha
    · by_cases hk' : k = i
      · subst hk'; rw [upA_same] at hk; cases hk
      · rw [upA_ne hj] at ha; rw [upA_ne hk'] at hk; exact x.sp j k a ha hk
  · cases hu
    by_cases hj : j = i
    · subst hj; rw [upA_same] at ha; cases ha
    · rw [upA_ne hj] at ha
      exact hj (x.sp j i p ha (by rw [h3]; simp))
  · cases hu
    exact ⟨⟨g, m, q, h1, h.1, h.2.1, h.2.2.1, h.2.2.2.1, h.2.2.2.2⟩, h2, .inr h0⟩
end
def isUrn : Sl → Bool
  | .urn => true
  | _ => false
section
variable {X : Cx} {W : WX} {pos : Pos}
/-- slot i's own list is the urn from here on -/
def wUrn (i : Nat) (a : WS) : WS := fun D ρ => match own1At i ρ with
  | some [.int g, .int m, .int q] => urnOk g m q ∧ ((ρ.set i .no).all fun s => !isUrn s) = true ∧ a D (ρ.set i .urn)
  | _ => False
theorem vss_urn (i : Nat) {sts : List Stmt} {a : WS} (h : VSs X W sts a) : VSs X W sts (wUrn i a) := by
  obtain ⟨t, p, s⟩ := h.ex
  refine ⟨t, p, fun U0 B0 H0 U ρ σ B H As Dv Dn x hw kn kb kc kr ke => ?_⟩
  unfold wUrn at hw
  split at hw
  · rename_i g m q e0
    have e0 := own1At_eq e0
    obtain ⟨h1, h2, h3⟩ := hw
    obtain ⟨U', y⟩ := x.lend e0 h1 fun j hj e => by
      have hjl : j < ρ.length := (List.getElem?_eq_some_iff.mp e).1
      have e2 : (ρ.set i .no)[j]? = some .urn := by rw [List.getElem?_set_ne (Ne.symm hj)]; exact e
      have := List.all_eq_true.mp h2 _ (List.mem_of_getElem? e2)
      cases this
    exact s U0 B0 H0 U' _ σ B H _ Dv Dn y h3 kn kb kc kr ke
  · exact hw.elim
/-- an item of the script -/
def wIxS (wa wi : WE) : WE := fun ρ Q E => wa ρ (fun s => match s with
  | .scr ns => dOf wi ρ (fun j => match j with
    | .int j => (match atI ns j with | some n => Q (.val (.int n)) | none => False)
    | _ => False) E
  | _ => False) E
theorem atI_map {α β : Type} {f : α → β} {xs : List α} {i : Int} {x : α} (h : atI xs i = some x) : atI (xs.map f) i = some (f x) := by
  unfold atI at h ⊢
  rw [List.length_map]
  cases q : ixN xs.length i with
  | none => rw [q] at h; cases h
  | some j =>
    rw [q] at h
    have h' : xs[j]? = some x := h
    show (xs.map f)[j]? = some (f x)
    rw [List.getElem?_map, h']; rfl
theorem ve_ixScr {a b : Expr} {wa wb : WE} (hs : PlainIx b) (ha : VE X W a wa) (hb : VE X W b wb) : VE X W (.Subscript a b pos) (wIxS wa wb) := by
  obtain ⟨ta, pa, sa⟩ := ha.ex
  obtain ⟨tb, pb, sb⟩ := hb.ex
  refine ⟨_, pe_ix ix_seq pa pb hs, fun U0 B0 H0 U ρ σ B H As Qv Ev Q x hw kq ke => ?_⟩
  have hu : ∀ u, U = some u → UrnC H u := fun u q => (x.uC u q).1
  refine sa _ _ _ _ _ _ _ _ _ _ _ _ x hw (fun s v B1 H1 A m1 r1 q1 => ?_) ke
  cases s with
  | scr ns =>
    obtain ⟨_, p, ev, hq⟩ := r1.ok
    cases ev
    refine sb.dat (x.step m1) q1 (fun j u B2 H2 m2 r2 q2 => ?_) (fun c B' H' m q => ke c B' H' (m1.trans' m hu) q)
    cases j with
    | int j =>
      cases r2
      have q3 : (match atI ns j with | some n => Qv (.val (.int n)) | none => False) := q2
      cases hn : atI ns j with
      | none => rw [hn] at q3; exact q3.elim
      | some n =>
        rw [hn] at q3
        exact .inl ⟨p, _, j, .int n, rfl, rfl, sqL_ext (m2.eb.trans m2.eh) hq, atI_map hn, kq _ _ B2 H2 [] (m1.trans' m2 hu) (.val (.int _)) q3⟩
    | _ => exact q2.elim
  | _ => exact q1.elim
end
/-! ### the law's own draws -/
def F_law_urn (_ : PySem.W.Frag) : FS := fun ss Q _ => ∃ (ns : List Int) (i : Int), ss = [.scr ns, .val (.int i)] ∧ 0 ≤ i ∧ i < 100 ∧ ∀ g m q : Int, urnOk g m q → Q (.own 1 (.list [.int g, .int m, .int q]))
def F_law_draw (_ : PySem.W.Frag) : FS := fun ss Q _ => ∃ n : Int, ss = [.urn, .val (.int n)] ∧ 0 < n ∧ n < 1073741824 ∧ ∀ d : Int, 0 ≤ d → d < n → Q (.val (.int d))
theorem mv_urn {u : Addr} {g m q : Int} {B H : Hp} (hB : Ext B H) (hb : B u = none) (ok : urnOk g m q) : Mv (some u) B H B (upd H u (.lst [.int g, .int m, .int q])) where
  eb := Ext.refl _
  eh := fun a o e => by
    have : a ≠ u := fun z => by subst z; rw [hb] at e; cases e
    rw [upd_ne this]; exact hB a o e
  kp := fun a o e n => by
    have : a ≠ u := fun z => n (by rw [z])
    rw [upd_ne this]; exact e
  nw := fun a o e => .inl e
  ur := fun w e _ => by
    cases e
    exact ⟨g, m, q, upd_same, ok⟩
section
variable {P : Program} {Wd : World} {K : PySem.W.Frag} {mg : Str → Option Value} {base : Heap}
abbrev t_ix (K : PySem.W.Frag) (a b : TE) : TE := tOp (rIx K) a b
def t_dret (K : PySem.W.Frag) : TS := tRet (tOp (rI (fun _ j => j ≠ 0) fun i j => .int (i.fmod j)) (tOp (rI fdivOk fun i j => .int (i.fdiv j)) (tOp (rI (fun _ j => j ≠ 0) fun i j => .int (i.fmod j)) (tOp (rI CPow fun i j => .int (i ^ j.toNat))
      (tOp (rI fdivOk fun i j => .int (i.fdiv j)) (t_ix K (tVar 0) (tC (.int 1))) (tC (.int 16))) (tC (.int 3))) (tC (.int 1999999973))) (tC (.int 8))) (tVar 1))
/-- the reading of _law_draw(urn, many): slots urn, many, drawn -/
def t_draw (K : PySem.W.Frag) : TS :=
  tSeq (tIfS (tTest (tOp (rI0 fun i j => .bl (decide (j < i))) (t_ix K (tVar 0) (tC (.int 0))) (tC (.int 0))))
    (tSeq (tAsg (tOp (rI (fun _ j => j ≠ 0) fun i j => .int (i.fmod j)) (t_ix K (tVar 0) (tC (.int 0))) (tVar 1)) (gName 2))
      (tSeq (tAsg (tOp (rI fdivOk fun i j => .int (i.fdiv j)) (t_ix K (tVar 0) (tC (.int 0))) (tVar 1)) (gSub (tVar 0) (tC (.int 0)) rSetL)) (tRet (tVar 2)))) tNext)
  (tSeq (tAsg (tOp (rI (fun _ j => j ≠ 0) fun i j => .int (i.fmod j)) (tOp (rI0 fun i j => .int (i + j)) (tOp (rI mulOk fun i j => .int (i * j)) (t_ix K (tVar 0) (tC (.int 1))) (tC (.int 60013))) (tC (.int 12289))) (t_ix K (tVar 0) (tC (.int 2)))) (gSub (tVar 0) (tC (.int 1)) rSetL))
    (t_dret K))
theorem small_log {n : Int} (h : 0 < n) (h2 : n < 1073741824) : n.natAbs.log2 < 9000 := Nat.lt_of_lt_of_le ((Nat.log2_lt (by omega)).mpr (show n.natAbs < 2 ^ 31 by omega)) (by decide)
theorem pure_draw (vs : List V) (H : Hp) (Q : VK) (E : XK) (h : spOf K 2 (F_law_draw K) vs H Q E) : t_draw K { nx := fun _ H' => Q .non H', rt := Q } (L2.start ["_law_urn_here", "_law_many", "_law_drawn"] vs) H := by
  obtain ⟨U, B, ss, Qv, Ev, hB, hU, ar, _, ⟨n, rfl, hn, hn2, kd⟩, kq, _⟩ := h
  cases ar with
  | urn hu ar =>
    cases ar with
    | val hv ar =>
      cases ar
      cases hv
      rename_i u
      obtain ⟨⟨g, m, q, hH, g0, m0, m1, q0, q1⟩, hb⟩ := hU u hu
      subst hu
      have sq : SqL K H u [.int g, .int m, .int q] := .inl (.inl hH)
      have fin : ∀ g' m' d : Int, urnOk g' m' q → 0 ≤ d → d < n → Q (.int d) (upd H u (.lst [.int g', .int m', .int q])) := fun g' m' d ok h1 h2 =>
        kq (.val (.int d)) (.int d) B _ [] (mv_urn hB hb ok) (.val (.int d)) (kd d h1 h2)
      refine ⟨_, rfl, .inl ⟨u, _, 0, .int g, rfl, rfl, sq, rfl, _, _, rfl, rfl, _, rfl, ?_⟩⟩
      refine ite2 (fun c => ?_) (fun c => ?_)
      · have c := of_decide_eq_true c
        refine ⟨_, rfl, .inl ⟨u, _, 0, .int g, rfl, rfl, sq, rfl, _, rfl, _, _, rfl, rfl, by omega, ?_⟩⟩
        refine ⟨_, rfl, .inl ⟨u, _, 0, .int g, rfl, rfl, sq, rfl, _, rfl, _, _, rfl, rfl, ⟨by omega, small_log hn hn2⟩, ?_⟩⟩
        refine ⟨_, rfl, u, _, 0, 0, rfl, rfl, hH, rfl, _, rfl, ?_⟩
        refine fin (g.fdiv n) m (g.fmod n) ⟨?_, m0, m1, q0, q1⟩ ?_ ?_
        · rw [Int.fdiv_eq_ediv_of_nonneg _ (by omega)]; exact Int.ediv_nonneg g0 (by omega)
        · rw [Int.fmod_eq_emod_of_nonneg _ (by omega)]; exact Int.emod_nonneg _ (by omega)
        · rw [Int.fmod_eq_emod_of_nonneg _ (by omega)]; exact Int.emod_lt_of_pos _ hn
      · refine ⟨_, rfl, .inl ⟨u, _, 1, .int m, rfl, rfl, sq, rfl, _, _, rfl, rfl, ?_, _, _, rfl, rfl, ?_⟩⟩
        · unfold mulOk
          have : m.natAbs.log2 < 100 := by
            by_cases z : m.natAbs = 0
            · rw [z]; decide
            · exact Nat.lt_of_lt_of_le ((Nat.log2_lt z).mpr (show m.natAbs < 2 ^ 31 by omega)) (by decide)
          have : (60013 : Int).natAbs.log2 < 100 := by decide
          omega
        refine ⟨_, rfl, .inl ⟨u, _, 2, .int q, rfl, rfl, sq, rfl, _, _, rfl, rfl, by omega, ?_⟩⟩
        refine ⟨_, rfl, u, _, 1, 1, rfl, rfl, hH, rfl, ?_⟩
        have e0 : 0 ≤ (m * 60013 + 12289).fmod q := by rw [Int.fmod_eq_emod_of_nonneg _ (by omega)]; exact Int.emod_nonneg _ (by omega)
        have e1 : (m * 60013 + 12289).fmod q < q := by rw [Int.fmod_eq_emod_of_nonneg _ (by omega)]; exact Int.emod_lt_of_pos _ q0
        show t_dret K { nx := fun _ H' => Q .non H', rt := Q } [some (.ref u), some (.int n), none] (upd H u (.lst [.int g, .int ((m * 60013 + 12289).fmod q), .int q]))
        generalize (m * 60013 + 12289).fmod q = m2 at e0 e1 ⊢
        have sq2 : SqL K (upd H u (.lst [.int g, .int m2, .int q])) u [.int g, .int m2, .int q] := .inl (.inl upd_same)
        refine ⟨_, rfl, .inl ⟨u, _, 1, .int m2, rfl, rfl, sq2, rfl, _, _, rfl, rfl, ⟨by decide, by decide⟩, _, _, rfl, rfl, ?_, _, _, rfl, rfl, (by show (1999999973 : Int) ≠ 0; decide), _, _, rfl, rfl, ⟨by decide, by decide⟩, _, rfl, _, _, rfl, rfl, (by show n ≠ 0; omega), ?_⟩⟩
        · rw [Int.fdiv_eq_ediv_of_nonneg _ (by omega)]
          refine ⟨by decide, by decide, ?_⟩
          have : m2 / 16 ≤ m2 := Int.ediv_le_self _ e0
          have : 0 ≤ m2 / 16 := Int.ediv_nonneg e0 (by omega)
          omega
        · refine fin g m2 _ ⟨g0, e0, by omega, q0, q1⟩ ?_ ?_
          · rw [Int.fmod_eq_emod_of_nonneg _ (by omega)]; exact Int.emod_nonneg _ (by omega)
          · rw [Int.fmod_eq_emod_of_nonneg _ (by omega)]; exact Int.emod_lt_of_pos _ hn
end
end VL

set_option Elab.async false
set_option linter.all false
set_option maxRecDepth 100000
set_option maxHeartbeats 2000000
/-! VX: laws of the readings, for the walks: each holds by unfolding, at a state that stands spelled out. -/
namespace VL
open PySem PySem.Spec PyProof.Rows
section
variable {Dv : Ds} {a b : WS} {c : WT} {w wa wb wc we : WE} {wl wh : WO} {ws : WA} {s : Sl} {ρ : Sts} {i j n : Nat} {Q : Sl → Prop} {E : EX} {R : D → Prop} {B : Bool → Prop} {RL : List Sl → Prop} {DL : List D → Prop} {g : WG} {gs : WGs} {d e : D}
def onD (R : D → Prop) : Sl → Prop := fun s => match s.dat with | some d => R d | none => False
def onB (B : Bool → Prop) : D → Prop := fun d => match d with | .bool b => B b | _ => False
def onI (R : Int → Prop) : D → Prop := fun d => match d with | .int i => R i | _ => False
def onDs (R : List D → Prop) : List Sl → Prop := fun ss => match dats ss with | some ds => R ds | none => False
def onV (Q : Sl → Prop) : Option Sl → Prop := fun o => match o with
  | some (.val d) => Q (.val d)
  | some .urn => Q .urn
  | some (.raw v) => Q (.raw v)
  | some (.scr ns) => Q (.scr ns)
  | _ => False
def onO (Q : Sl → Prop) : Option Sl → Prop := fun o => match o with
  | some (.own n d) => Q (.own n d)
  | _ => False
def on1 (R : List D → Prop) : Option (List D) → Prop := fun o => match o with
  | some ds => R ds
  | none => False
def onOI (R : Int → Prop) : Option Sl → Prop := fun o => match o with
  | some (.val (.int a)) => R a
  | _ => False
theorem on1_some {R : List D → Prop} {ds : List D} : on1 R (some ds) = R ds := rfl
theorem onOI_x {R : Int → Prop} {k : Int} : onOI R (some (.val (.int k))) = R k := rfl
theorem onD_val : onD R (.val d) = R d := rfl
theorem onD_own : onD R (.own n d) = R d := rfl
theorem onB_x {b : Bool} : onB B (.bool b) = B b := rfl
theorem onI_x {R : Int → Prop} {k : Int} : onI R (.int k) = R k := rfl
theorem onV_val : onV Q (some (.val d)) = Q (.val d) := rfl
theorem onV_urn : onV Q (some .urn) = Q .urn := rfl
theorem onV_raw {v : L2.V} : onV Q (some (.raw v)) = Q (.raw v) := rfl
theorem onV_scr {ns : List Int} : onV Q (some (.scr ns)) = Q (.scr ns) := rfl
theorem onO_own : onO Q (some (.own n d)) = Q (.own n d) := rfl
theorem onDs_nil : onDs DL [] = DL [] := rfl
theorem onDs_1 : onDs DL [.val d] = DL [d] := rfl
theorem onDs_cons {ss : List Sl} : onDs DL (.val d :: ss) = onDs (fun ds => DL (d :: ds)) ss := by
  unfold onDs
  cases h : dats ss <;> simp [dats, h]
theorem retS_val : retS (.val d) = True := rfl
theorem retS_own : retS (.own n d) = True := rfl
theorem argS_val : argS (.val d) = True := rfl
theorem argS_own : argS (.own n d) = True := rfl
theorem argS_urn : argS .urn = True := rfl
theorem argS_raw {v : L2.V} : argS (.raw v) = True := rfl
theorem argS_scr {ns : List Int} : argS (.scr ns) = True := rfl
theorem frzS_val : frzS (.val d) = .val d := rfl
theorem frzS_own : frzS (.own n d) = .val d := rfl
theorem frzS_urn : frzS .urn = .urn := rfl
theorem frzS_raw {v : L2.V} : frzS (.raw v) = .raw v := rfl
theorem frzS_scr {ns : List Int} : frzS (.scr ns) = .scr ns := rfl
theorem frzS_no : frzS .no = .no := rfl
theorem x_dOf {w : WE} {R : D → Prop} : dOf w (s :: ρ) R E = w (s :: ρ) (onD R) E := rfl
theorem x_wDats : wDats ws (s :: ρ) DL E = ws (s :: ρ) (onDs DL) E := rfl
theorem x_var : wVar i (s :: ρ) Q E = onV Q ((s :: ρ)[i]?) := rfl
theorem x_c : wC d (s :: ρ) Q E = Q (.val d) := rfl
theorem x_r {v : L2.V} : wR v (s :: ρ) Q E = Q (.raw v) := rfl
theorem x_bin {o : O2} : wBin o wa wb (s :: ρ) Q E = wa (s :: ρ) (onD fun d => wb (s :: ρ) (onD fun e => o d e Q) E) E := rfl
theorem x_ixs : wIxS wa wb (s :: ρ) Q E = wa (s :: ρ) (fun t => match t with
  | .scr ns => wb (s :: ρ) (onD (onI fun j => match L2.atI ns j with | some n => Q (.val (.int n)) | none => False)) E
  | _ => False) E := by
  unfold wIxS dOf
  congr 1
theorem x_tst : wTst w (s :: ρ) B E = w (s :: ρ) (onD (onB B)) E := by
  unfold wTst dOf
  congr 1
theorem x_and {c c' : WT} : wAnd c c' (s :: ρ) B E = c (s :: ρ) (fun z => if z = true then c' (s :: ρ) B E else B false) E := rfl
theorem x_or {c c' : WT} : wOr c c' (s :: ρ) B E = c (s :: ρ) (fun z => if z = true then B true else c' (s :: ρ) B E) E := rfl
theorem x_not {c : WT} : wNot c (s :: ρ) B E = c (s :: ρ) (fun z => B (!z)) E := rfl
theorem x_andV : wAndV wa wb (s :: ρ) Q E = wa (s :: ρ) (onD (onB fun c => if c = true then wb (s :: ρ) Q E else Q (.val (.bool false)))) E := by
  unfold wAndV dOf; congr 1
theorem x_orV : wOrV wa wb (s :: ρ) Q E = wa (s :: ρ) (onD (onB fun c => if c = true then Q (.val (.bool true)) else wb (s :: ρ) Q E)) E := by
  unfold wOrV dOf; congr 1
theorem x_notV : wNotV wa (s :: ρ) Q E = wa (s :: ρ) (onD (onB fun c => Q (.val (.bool (!c))))) E := by
  unfold wNotV dOf; congr 1
theorem x_ifE {c : WT} : wIfE c wa wb (s :: ρ) Q E = c (s :: ρ) (fun z => if z = true then wa (s :: ρ) Q E else wb (s :: ρ) Q E) E := rfl
def onBS (B : Bool → Prop) : Sl → Prop := fun s => match s with | .val (.bool c) => B c | _ => False
theorem onBS_x {c : Bool} : onBS B (.val (.bool c)) = B c := rfl
theorem x_chain {o o' : O2} : wChain o o' wa wb wc (s :: ρ) Q E = wa (s :: ρ) (onD fun d => wb (s :: ρ) (onD fun e => o d e (onBS fun c => if c = true then wc (s :: ρ) (onD fun f => o' e f Q) E else Q (.val (.bool false)))) E) E := by
  unfold wChain dOf; congr 1
theorem x_neg : wNeg wa (s :: ρ) Q E = wa (s :: ρ) (onD (onI fun i => Q (.val (.int (-i))))) E := by
  unfold wNeg dOf; congr 1
theorem x_nil : wNil (s :: ρ) RL E = RL [] := rfl
theorem x_cons : wConsA w ws (s :: ρ) RL E = w (s :: ρ) (fun t => argS t ∧ ws (s :: ρ) (fun ss => RL (frzS t :: ss)) E) E := rfl
theorem x_tup : wTup ws (s :: ρ) Q E = ws (s :: ρ) (onDs fun ds => ds.length ≤ sizeLine ∧ Q (.val (.tuple ds))) E := rfl
theorem x_lst : wLst ws (s :: ρ) Q E = ws (s :: ρ) (onDs fun ds => ds.length ≤ sizeLine ∧ Q (.own 1 (.list ds))) E := rfl
theorem x_b {o : OC} : wB o ws (s :: ρ) Q E = ws (s :: ρ) (fun ss => o ss Q) E := rfl
theorem x_m {T : String} {o : OM} : wM T o w ws (s :: ρ) Q E = w (s :: ρ) (onD fun d => tyD d = T ∧ ws (s :: ρ) (onDs fun ds => o d ds Q) E) E := rfl
theorem x_call {F : FS} : wCall F n ws (s :: ρ) Q E = ws (s :: ρ) (fun ss => ss.length = n ∧ F ss Q E) E := rfl
theorem x_nop {O : Option Int → Prop} : wNoP (s :: ρ) O E = O none := rfl
theorem x_part {O : Option Int → Prop} : wPart w (s :: ρ) O E = w (s :: ρ) (onD (onI fun i => O (some i))) E := by
  unfold wPart dOf; congr 1
theorem x_sl : wSl wa wl wh (s :: ρ) Q E = wa (s :: ρ) (onD fun d => wl (s :: ρ) (fun lo => wh (s :: ρ) (fun hi => oSl d lo hi Q) E) E) E := rfl
theorem x_peek : wPeek w (s :: ρ) Q E = w (frzS s :: ρ.map frzS) (onD fun d => noL d = true ∧ Q (.val d)) E := rfl
theorem x_peekT {c : WT} : wPeekT c (s :: ρ) B E = c (frzS s :: ρ.map frzS) B E := rfl
theorem x_ownIx : wOwnIx i w (s :: ρ) Q E = on1 (fun ds => w (s :: ρ) (onD (onI fun j => match L2.atI ds j with | some d => Q (.val d) | none => False)) E) (own1At i (s :: ρ)) := by
  unfold wOwnIx on1 dOf
  generalize own1At i (s :: ρ) = o
  cases o <;> rfl
theorem x_own0 {ds : List D} : own1At 0 (.own 1 (.list ds) :: ρ) = some ds := rfl
theorem x_ownS : own1At (i + 1) (s :: ρ) = own1At i ρ := rfl
/-! blocks -/
theorem x_seq : wSeq a b Dv (s :: ρ) = a { Dv with nx := b Dv } (s :: ρ) := rfl
theorem x_next : wNext Dv (s :: ρ) = Dv.nx (s :: ρ) := rfl
theorem x_break : wBreak Dv (s :: ρ) = Dv.bk (s :: ρ) := rfl
theorem x_cont : wCont Dv (s :: ρ) = Dv.ct (s :: ρ) := rfl
theorem x_ret : wRet w Dv (s :: ρ) = w (s :: ρ) (fun t => retS t ∧ Dv.rt t) Dv.ex := rfl
theorem x_retN : wRetN Dv (s :: ρ) = Dv.rt (.val .none) := rfl
theorem x_retO : wRetO i Dv (s :: ρ) = onO Dv.rt ((s :: ρ)[i]?) := rfl
theorem x_if {c : WT} : wIf c a b Dv (s :: ρ) = c (s :: ρ) (fun z => if z = true then a Dv (s :: ρ) else b Dv (s :: ρ)) Dv.ex := rfl
theorem x_raise {v : Value} : wRaise v Dv (s :: ρ) = Dv.ex v := rfl
theorem x_set : wSet i w Dv (s :: ρ) = w (s :: ρ) (fun t => i < (s :: ρ).length ∧ Dv.nx ((s :: ρ).set i t)) Dv.ex := rfl
theorem x_setV : wSetV i w Dv (s :: ρ) = w (s :: ρ) (fun t => i < (s :: ρ).length ∧ Dv.nx ((s :: ρ).set i (frzS t))) Dv.ex := rfl
theorem x_frz : wFrz i a Dv (s :: ρ) = a Dv ((s :: ρ).set i (((s :: ρ)[i]?.map frzS).getD .no)) := rfl
theorem x_asg : wAsg w g Dv (s :: ρ) = w (s :: ρ) (onD fun d => g d (s :: ρ) Dv.nx Dv.ex) Dv.ex := rfl
theorem x_gset {R : Sts → Prop} : gwSet i d (s :: ρ) R E = (i < (s :: ρ).length ∧ R ((s :: ρ).set i (.val d))) := rfl
theorem x_gnil {R : Sts → Prop} : gwNil [] (s :: ρ) R E = R (s :: ρ) := rfl
theorem x_gcons {R : Sts → Prop} {ds : List D} : gwCons g gs (d :: ds) (s :: ρ) R E = g d (s :: ρ) (fun ρ' => gs ds ρ' R E) E := rfl
theorem x_gtup {R : Sts → Prop} {ds : List D} : gwTup n gs (.tuple ds) (s :: ρ) R E = (ds.length = n ∧ gs ds (s :: ρ) R E) := rfl
theorem x_gsub {R : Sts → Prop} : gwSub i w d (s :: ρ) R E = on1 (fun ds => w (s :: ρ) (onD (onI fun j => match L2.ixN ds.length j with | some m => R ((s :: ρ).set i (.own 1 (.list (ds.set m d)))) | none => False)) E) (own1At i (s :: ρ)) := by
  unfold gwSub on1 dOf
  generalize own1At i (s :: ρ) = o
  cases o <;> rfl
def on2 (R : D → D → Prop) : List D → Prop := fun ds => match ds with | [d, e] => R d e | _ => False
theorem on2_x {R : D → D → Prop} : on2 R [d, e] = R d e := rfl
theorem x_par : wPar i j ws Dv (s :: ρ) = ws (s :: ρ) (onDs (on2 fun d e => i < (s :: ρ).length ∧ j < (s :: ρ).length ∧ Dv.nx (((s :: ρ).set i (.val d)).set j (.val e)))) Dv.ex := by
  unfold wPar wDats; congr 1
theorem x_aug {f : Int → Int → Int} : wAug i f w Dv (s :: ρ) = onOI (fun a => w (s :: ρ) (onD (onI fun b => Dv.nx ((s :: ρ).set i (.val (.int (f a b)))))) Dv.ex) ((s :: ρ)[i]?) := by
  unfold wAug onOI dOf
  generalize (s :: ρ)[i]? = o
  cases o with
  | none => rfl
  | some t =>
    cases t with
    | val d => cases d <;> rfl
    | _ => rfl
def onL1 (R : D → Prop) : List D → Prop := fun ds => match ds with | [d] => R d | _ => False
theorem onL1_x {R : D → Prop} : onL1 R [d] = R d := rfl
theorem x_app : wApp i ws Dv (s :: ρ) = on1 (fun ds => ws (s :: ρ) (onDs (onL1 fun d => ds.length < sizeLine ∧ Dv.nx ((s :: ρ).set i (.own 1 (.list (ds ++ [d])))))) Dv.ex) (own1At i (s :: ρ)) := by
  unfold wApp on1 wDats
  generalize own1At i (s :: ρ) = o
  cases o <;> rfl
def onL (R : List D → Prop) : D → Prop := fun d => match d with | .list ds => R ds | _ => False
theorem onL_x {R : List D → Prop} {ds : List D} : onL R (.list ds) = R ds := rfl
theorem x_ext : wExt i ws Dv (s :: ρ) = on1 (fun ds => ws (s :: ρ) (onDs (onL1 (onL fun es => ds.length + es.length ≤ sizeLine ∧ Dv.nx ((s :: ρ).set i (.own 1 (.list (ds ++ es))))))) Dv.ex) (own1At i (s :: ρ)) := by
  unfold wExt on1 wDats
  generalize own1At i (s :: ρ) = o
  cases o with
  | none => rfl
  | some es =>
    show ws _ _ _ = ws _ _ _
    congr 1
    funext ss
    unfold onDs
    cases dats ss with
    | none => rfl
    | some l =>
      cases l with
      | nil => rfl
      | cons x l =>
        cases l with
        | nil => cases x <;> rfl
        | cons y l => cases x <;> rfl
theorem x_pop : wPop i g Dv (s :: ρ) = on1 (fun ds => match ds[ds.length - 1]? with | some d => g d ((s :: ρ).set i (.own 1 (.list ds.dropLast))) Dv.nx Dv.ex | none => False) (own1At i (s :: ρ)) := by
  unfold wPop on1
  generalize own1At i (s :: ρ) = o
  cases o <;> rfl
theorem x_popN : wPopN i Dv (s :: ρ) = on1 (fun ds => ds ≠ [] ∧ Dv.nx ((s :: ρ).set i (.own 1 (.list ds.dropLast)))) (own1At i (s :: ρ)) := by
  unfold wPopN on1
  generalize own1At i (s :: ρ) = o
  cases o <;> rfl
def onU (R : Int → Int → Int → Prop) : Option (List D) → Prop := fun o => match o with | some [.int g, .int m, .int q] => R g m q | _ => False
theorem onU_x {R : Int → Int → Int → Prop} {g m q : Int} : onU R (some [.int g, .int m, .int q]) = R g m q := rfl
theorem x_urn : wUrn i a Dv (s :: ρ) = onU (fun g m q => urnOk g m q ∧ (((s :: ρ).set i .no).all fun s => !isUrn s) = true ∧ a Dv ((s :: ρ).set i .urn)) (own1At i (s :: ρ)) := rfl
theorem x_for {wi : WI} : wFor wi g a Dv (s :: ρ) = wi (s :: ρ) (fun ds => ∃ I : Nat → Sts → Prop, I 0 (s :: ρ) ∧
  (∀ i d ρ', ds[i]? = some d → I i ρ' → g d ρ' (fun ρ'' => a { Dv with nx := I (i + 1), ct := I (i + 1), bk := Dv.nx } ρ'') Dv.ex) ∧ ∀ ρ', I ds.length ρ' → Dv.nx ρ') Dv.ex := rfl
theorem x_while {c : WT} : wWhile c a Dv (s :: ρ) = ∃ I : Nat → Sts → Prop, (∃ m, I m (s :: ρ)) ∧ ∀ m ρ', I m ρ' → c ρ' (fun b => if b = true then a { Dv with nx := fun ρ'' => ∃ m', m' < m ∧ I m' ρ'', ct := fun ρ'' => ∃ m', m' < m ∧ I m' ρ'', bk := Dv.nx } ρ' else Dv.nx ρ') Dv.ex := rfl
theorem x_lc {wi : WI} {wt : WT} {vs : List Nat} : wLc wi g wt we vs n (s :: ρ) Q E = wi (s :: ρ) (fun ds => ∃ P : Nat → List D → Prop, P 0 [] ∧
  (∀ i d acc, ds[i]? = some d → P i acc → g d (wipeS (s :: ρ) vs) (fun ρ' => wt ρ' (fun b => if b = true then we ρ' (fun s => ∃ d', s.elt n = some d' ∧ acc.length < sizeLine ∧ P (i + 1) (acc ++ [d'])) noE else P (i + 1) acc) noE) noE) ∧
  ∀ acc, P ds.length acc → Q (.own (n + 1) (.list acc))) E := rfl
/-! what is walked through -/
def onSeq (DL : List D → Prop) : D → Prop := fun d => match seqD d with | some ds => DL ds | none => False
theorem onSeq_l {ds : List D} : onSeq DL (.list ds) = DL ds := rfl
theorem onSeq_t {ds : List D} : onSeq DL (.tuple ds) = DL ds := rfl
theorem x_wiSeq : wiSeq w (s :: ρ) DL E = w (s :: ρ) (onD (onSeq DL)) E := rfl
theorem x_rng1 : wiRng1 ws (s :: ρ) DL E = ws (s :: ρ) (onDs (onL1 (onI fun j => smallI j ∧ DL (rng 0 j.toNat)))) E := by
  unfold wiRng1 wDats
  congr 1
  funext ss
  unfold onDs
  cases dats ss with
  | none => rfl
  | some l =>
    cases l with
    | nil => rfl
    | cons x l => cases l <;> cases x <;> rfl
theorem x_rng2 : wiRng2 ws (s :: ρ) DL E = ws (s :: ρ) (onDs (on2 fun d e => onI (fun i => onI (fun j => smallI i ∧ smallI j ∧ DL (rng i (j - i).toNat)) e) d)) E := by
  unfold wiRng2 wDats
  congr 1
  funext ss
  unfold onDs
  cases dats ss with
  | none => rfl
  | some l =>
    cases l with
    | nil => rfl
    | cons x l =>
      cases l with
      | nil => cases x <;> rfl
      | cons y l => cases l <;> cases x <;> cases y <;> rfl
def onStr (R : Str → Prop) : D → Prop := fun d => match d with | .str z => R z | _ => False
theorem onStr_x {R : Str → Prop} {z : Str} : onStr R (.str z) = R z := rfl
theorem x_wiStr : wiStr w (s :: ρ) DL E = w (s :: ρ) (onD (onStr fun z => DL (z.cps.toList.map fun c => .str ⟨#[c]⟩))) E := by
  unfold wiStr dOf; congr 1
theorem x_wiEnum : wiEnum ws (s :: ρ) DL E = ws (s :: ρ) (onDs (onL1 (onL fun es => DL (enumD es)))) E := by
  unfold wiEnum wDats
  congr 1
  funext ss
  unfold onDs
  cases dats ss with
  | none => rfl
  | some l =>
    cases l with
    | nil => rfl
    | cons x l => cases l <;> cases x <;> rfl
def onZ (DL : List D → Prop) : List D → Prop := fun ds => match ds with | [.list as, .list bs] => DL (zipD as bs) | [.tuple as, .tuple bs] => DL (zipD as bs) | _ => False
theorem onZ_l {x y : List D} : onZ DL [.list x, .list y] = DL (zipD x y) := rfl
theorem onZ_t {x y : List D} : onZ DL [.tuple x, .tuple y] = DL (zipD x y) := rfl
theorem x_wiZip : wiZip ws (s :: ρ) DL E = ws (s :: ρ) (onDs (onZ DL)) E := rfl
theorem x_wiRev : wiRev w (s :: ρ) DL E = w (s :: ρ) (onD (onSeq fun ds => DL ds.reverse)) E := rfl
/-! operators on plain data -/
theorem o_add {i j : Int} : oAdd (.int i) (.int j) Q = Q (.val (.int (i + j))) := rfl
theorem o_addS {x y : Str} : oAdd (.str x) (.str y) Q = (x.length + y.length ≤ sizeLine ∧ Q (.val (.str (x ++ y)))) := rfl
theorem o_addL {x y : List D} : oAdd (.list x) (.list y) Q = (x.length + y.length ≤ sizeLine ∧ Q (.own 1 (.list (x ++ y)))) := rfl
theorem o_addT {x y : List D} : oAdd (.tuple x) (.tuple y) Q = (x.length + y.length ≤ sizeLine ∧ Q (.val (.tuple (x ++ y)))) := rfl
theorem o_mul {i j : Int} : oMul (.int i) (.int j) Q = (mulOk i j ∧ Q (.val (.int (i * j)))) := rfl
theorem o_mulS {z : Str} {k : Int} : oMul (.str z) (.int k) Q = (2 ≤ k ∧ k ≤ 1000 ∧ 1 ≤ z.length ∧ z.length ≤ 1000 ∧ Q (.val (.str (repS z k.toNat)))) := rfl
theorem o_int {C : Int → Int → Prop} {f : Int → Int → Int} {i j : Int} : oInt C f (.int i) (.int j) Q = (C i j ∧ Q (.val (.int (f i j)))) := rfl
theorem o_cmp {f : Int → Int → Bool} {i j : Int} : oCmp f (.int i) (.int j) Q = Q (.val (.bool (f i j))) := rfl
theorem o_eq {z : Bool} : oEq z d e Q = (okE d e ∧ Q (.val (.bool (PyData.eqv d e == z)))) := rfl
theorem o_ixL {x : List D} {k : Int} : oIx (.list x) (.int k) Q = (match L2.atI x k with | some v => Q (.val v) | none => False) := rfl
theorem o_ixT {x : List D} {k : Int} : oIx (.tuple x) (.int k) Q = (match L2.atI x k with | some v => Q (.val v) | none => False) := rfl
theorem o_ixS {x : Str} {k : Int} : oIx (.str x) (.int k) Q = (x.length ≤ sizeLine ∧ (match L2.atI x.cps.toList k with | some c => Q (.val (.str ⟨#[c]⟩)) | none => False)) := rfl
theorem o_slL {x : List D} {lo hi : Option Int} : oSl (.list x) lo hi Q = Q (.own 1 (.list (cutD x lo hi))) := rfl
theorem o_slT {x : List D} {lo hi : Option Int} : oSl (.tuple x) lo hi Q = Q (.val (.tuple (cutD x lo hi))) := rfl
theorem o_slS {x : Str} {lo hi : Option Int} : oSl (.str x) lo hi Q = (x.length ≤ sizeLine ∧ Q (.val (.str (L2.cutS x lo hi)))) := rfl
theorem o_inS {k : Nat} {z : Str} : oInS true (.str ⟨#[k]⟩) (.str z) Q = Q (.val (.bool (decide (k ∈ z.cps.toList) == true))) := rfl
theorem o_i1 {f : Int → Int} {k : Int} : oI1 f [.val (.int k)] Q = Q (.val (.int (f k))) := rfl
theorem o_i2 {f : Int → Int → Int} {k l : Int} : oI2 f [.val (.int k), .val (.int l)] Q = Q (.val (.int (f k l))) := rfl
theorem o_lenL {x : List D} : oLen [.val (.list x)] Q = Q (.val (.int x.length)) := rfl
theorem o_lenT {x : List D} : oLen [.val (.tuple x)] Q = Q (.val (.int x.length)) := rfl
theorem o_lenS {x : Str} : oLen [.val (.str x)] Q = (x.length ≤ sizeLine ∧ Q (.val (.int x.length))) := rfl
theorem o_lenR {x : List Int} : oLen [.scr x] Q = Q (.val (.int x.length)) := rfl
theorem o_intI {k : Int} : oInt1 [.val (.int k)] Q = Q (.val (.int k)) := rfl
theorem o_intB {z : Bool} : oInt1 [.val (.bool z)] Q = Q (.val (.int (if z then 1 else 0))) := rfl
theorem o_str {k : Int} : oStr1 [.val (.int k)] Q = (k.natAbs.log2 < 1920 ∧ Q (.val (.str (Str.ofString (toString k))))) := rfl
theorem o_isi {T : String} : oIsi [.val d, .raw (.ty T)] Q = (match L2.kitB (tyD d) T with | some b => Q (.val (.bool b)) | none => False) := rfl
theorem o_list : oList [.val d] Q = onSeq (fun ds => Q (.own 1 (.list ds))) d := by
  show (match seqD d with | some ds => Q (.own 1 (.list ds)) | none => False) = _
  rfl
theorem o_tuple : oTuple [.val d] Q = onSeq (fun ds => Q (.val (.tuple ds))) d := rfl
theorem o_isN {z : Bool} : oIsN z d .none Q = Q (.val (.bool (isNon d == z))) := rfl
theorem non_n : isNon .none = true := rfl
theorem non_b {z : Bool} : isNon (.bool z) = false := rfl
theorem non_i {z : Int} : isNon (.int z) = false := rfl
theorem non_s {z : Str} : isNon (.str z) = false := rfl
theorem non_l {z : List D} : isNon (.list z) = false := rfl
theorem non_t {z : List D} : isNon (.tuple z) = false := rfl
theorem ty_n : tyD .none = "NoneType" := rfl
theorem ty_b {z : Bool} : tyD (.bool z) = "bool" := rfl
theorem ty_i {z : Int} : tyD (.int z) = "int" := rfl
theorem ty_s {z : Str} : tyD (.str z) = "str" := rfl
theorem ty_l {z : List D} : tyD (.list z) = "list" := rfl
theorem ty_t {z : List D} : tyD (.tuple z) = "tuple" := rfl
theorem o_part {x y : Str} : oPart (.str x) [.str y] Q = ((y.length == 0) = false ∧ x.length ≤ sizeLine ∧ Q (.val (.tuple [.str (Txt.partition x y).1, .str (Txt.partition x y).2.1, .str (Txt.partition x y).2.2]))) := rfl
theorem o_split {x y : Str} : oSplit (.str x) [.str y] Q = ((y.length == 0) = false ∧ x.length + 2 ≤ sizeLine ∧ Q (.own 1 (.list (strsD (Txt.split x y))))) := rfl
theorem o_starts {x y : Str} : oStarts (.str x) [.str y] Q = Q (.val (.bool (Txt.startswith x y))) := rfl
end
/-- a comprehension that takes each item -/
theorem lc_map {ds : List D} {g : WG} {we : WE} {vs : List Nat} {n : Nat} {ρ : Sts} {Q : Sl → Prop} (f : D → D) (hl : ds.length ≤ sizeLine)
    (h : ∀ (i : Nat) (d : D) (R : Sl → Prop), ds[i]? = some d → (∀ s, s.elt n = some (f d) → R s) → g d (wipeS ρ vs) (fun ρ' => we ρ' R noE) noE)
    (q : Q (.own (n + 1) (.list (ds.map f)))) :
    ∃ P : Nat → List D → Prop, P 0 [] ∧ (∀ i d acc, ds[i]? = some d → P i acc → g d (wipeS ρ vs) (fun ρ' => wYes ρ' (fun b => if b = true then we ρ' (fun s => ∃ d', s.elt n = some d' ∧ acc.length < sizeLine ∧ P (i + 1) (acc ++ [d'])) noE else P (i + 1) acc) noE) noE) ∧ ∀ acc, P ds.length acc → Q (.own (n + 1) (.list acc)) := by
  refine ⟨fun i acc => acc = (ds.take i).map f, by simp, fun i d acc hd e => ?_, fun acc e => ?_⟩
  · subst e
    have hi : i < ds.length := (List.getElem?_eq_some_iff.mp hd).1
    have := h i d (fun s => ∃ d', s.elt n = some d' ∧ ((ds.take i).map f).length < sizeLine ∧ (ds.take i).map f ++ [d'] = (ds.take (i + 1)).map f) hd (fun s hs => ⟨f d, hs, by rw [List.length_map, List.length_take]; omega, by
      rw [List.take_add_one, hd]; simp⟩)
    exact this
  · subst e
    rw [List.take_length]; exact q
/-! equality, places, truths -/
section
variable {i j : Int} {x y : Str} {a b : Bool} {ds es : List D} {d e : D}
theorem e_ii : PyData.eqv (.int i) (.int j) = decide (i = j) := by
  show (i == j) = _
  by_cases h : i = j
  · subst h; simp
  · rw [decide_eq_false h]; simpa using h
theorem e_ss : PyData.eqv (.str x) (.str y) = decide (x = y) := by
  show (x == y) = _
  by_cases h : x = y
  · subst h; simp
  · rw [decide_eq_false h]; simpa using h
theorem e_bb : PyData.eqv (.bool a) (.bool b) = (a == b) := by simp [PyData.eqv]
theorem e_nn : PyData.eqv .none .none = true := by simp [PyData.eqv]
theorem e_ni : PyData.eqv .none (.int j) = false := by simp [PyData.eqv]
theorem e_in : PyData.eqv (.int j) .none = false := by simp [PyData.eqv]
theorem e_ns : PyData.eqv .none (.str x) = false := by simp [PyData.eqv]
theorem e_sn : PyData.eqv (.str x) .none = false := by simp [PyData.eqv]
theorem e_nt : PyData.eqv .none (.tuple ds) = false := by simp [PyData.eqv]
theorem e_tn : PyData.eqv (.tuple ds) .none = false := by simp [PyData.eqv]
theorem e_nl : PyData.eqv .none (.list ds) = false := by simp [PyData.eqv]
theorem e_ln : PyData.eqv (.list ds) .none = false := by simp [PyData.eqv]
theorem e_is : PyData.eqv (.int i) (.str x) = false := by simp [PyData.eqv]
theorem e_si : PyData.eqv (.str x) (.int i) = false := by simp [PyData.eqv]
theorem e_it : PyData.eqv (.int i) (.tuple ds) = false := by simp [PyData.eqv]
theorem e_ti : PyData.eqv (.tuple ds) (.int i) = false := by simp [PyData.eqv]
theorem e_il : PyData.eqv (.int i) (.list ds) = false := by simp [PyData.eqv]
theorem e_li : PyData.eqv (.list ds) (.int i) = false := by simp [PyData.eqv]
theorem e_st : PyData.eqv (.str x) (.tuple ds) = false := by simp [PyData.eqv]
theorem e_ts : PyData.eqv (.tuple ds) (.str x) = false := by simp [PyData.eqv]
theorem e_sl : PyData.eqv (.str x) (.list ds) = false := by simp [PyData.eqv]
theorem e_ls : PyData.eqv (.list ds) (.str x) = false := by simp [PyData.eqv]
theorem e_tl : PyData.eqv (.tuple ds) (.list es) = false := by simp [PyData.eqv]
theorem e_lt : PyData.eqv (.list ds) (.tuple es) = false := by simp [PyData.eqv]
theorem e_tt : PyData.eqv (.tuple ds) (.tuple es) = PyData.eqvAll ds es := by simp [PyData.eqv]
theorem e_ll : PyData.eqv (.list ds) (.list es) = PyData.eqvAll ds es := by simp [PyData.eqv]
theorem ea_nil : PyData.eqvAll [] [] = true := by simp [PyData.eqvAll]
theorem ea_nc : PyData.eqvAll [] (e :: es) = false := by simp [PyData.eqvAll]
theorem ea_cn : PyData.eqvAll (d :: ds) [] = false := by simp [PyData.eqvAll]
theorem ea_cc : PyData.eqvAll (d :: ds) (e :: es) = (PyData.eqv d e && PyData.eqvAll ds es) := by simp [PyData.eqvAll]
theorem sh_n : (SeqAt.shaped .none = true) = True := eq_true rfl
theorem sh_b : (SeqAt.shaped (.bool a) = true) = True := eq_true rfl
theorem sh_i : (SeqAt.shaped (.int i) = true) = True := eq_true rfl
theorem ok_ss : okE (.str x) (.str y) = True := rfl
theorem ok_sn : okE (.str x) .none = True := rfl
theorem ok_ns : okE .none (.str x) = True := rfl
theorem ok_si : okE (.str x) (.int i) = True := rfl
theorem ok_is : okE (.int i) (.str x) = True := rfl
theorem ok_ii : okE (.int i) (.int j) = True := eq_true ⟨rfl, rfl⟩
theorem ok_ni : okE .none (.int j) = True := eq_true ⟨rfl, rfl⟩
theorem ok_in : okE (.int j) .none = True := eq_true ⟨rfl, rfl⟩
theorem ok_tt : okE (.tuple ds) (.tuple es) = (SeqAt.shaped (.tuple ds) = true ∧ SeqAt.shaped (.tuple es) = true) := rfl
theorem ok_ll : okE (.list ds) (.list es) = (SeqAt.shaped (.list ds) = true ∧ SeqAt.shaped (.list es) = true) := rfl
theorem sh_ii : (SeqAt.shaped (.tuple [.int i, .int j]) = true) = True := eq_true rfl
theorem bt : (a == true) = a := by cases a <;> rfl
theorem bf : (a == false) = !a := by cases a <;> rfl
theorem ndec {p : Prop} [Decidable p] : ((!decide p) = true) = ¬ p := by simp
end
section
variable {α : Type} {a b c d e f g h : α} {xs : List α}
theorem at_0 : L2.atI (a :: xs) 0 = some a := by
  unfold L2.atI L2.ixN
  rw [if_pos (by decide), if_pos (by simp only [List.length_cons]; omega)]; rfl
theorem at_nat {i : Nat} : L2.atI xs (i : Int) = xs[i]? := by
  unfold L2.atI L2.ixN
  rw [if_pos (Int.natCast_nonneg i)]
  by_cases h : i < xs.length
  · rw [if_pos (by omega)]
    show xs[(i : Int).toNat]? = xs[i]?
    rw [Int.toNat_natCast]
  · rw [if_neg (by omega)]
    rw [List.getElem?_eq_none (by omega)]; rfl
theorem at_S {i : Nat} : L2.atI (a :: xs) ((i + 1 : Nat) : Int) = L2.atI xs (i : Int) := by
  rw [at_nat, at_nat]; rfl
theorem at_1 : L2.atI (a :: b :: xs) 1 = some b := (at_S (i := 0)).trans at_0
theorem at_2 : L2.atI (a :: b :: c :: xs) 2 = some c := (at_S (i := 1)).trans at_1
theorem at_3 : L2.atI (a :: b :: c :: d :: xs) 3 = some d := (at_S (i := 2)).trans at_2
theorem at_4 : L2.atI (a :: b :: c :: d :: e :: xs) 4 = some e := (at_S (i := 3)).trans at_3
theorem at_5 : L2.atI (a :: b :: c :: d :: e :: f :: xs) 5 = some f := (at_S (i := 4)).trans at_4
theorem at_6 : L2.atI (a :: b :: c :: d :: e :: f :: g :: xs) 6 = some g := (at_S (i := 5)).trans at_5
theorem at_7 : L2.atI (a :: b :: c :: d :: e :: f :: g :: h :: xs) 7 = some h := (at_S (i := 6)).trans at_6
end
theorem x_yes {s : Sl} {ρ : Sts} {B : Bool → Prop} {E : EX} : wYes (s :: ρ) B E = B true := rfl
theorem x_elt0 {s : Sl} : Sl.elt 0 s = s.dat := rfl
theorem bools_map : ∀ bs : List Bool, bools (bs.map PyData.bool) = some bs
  | [] => rfl
  | b :: bs => by show (bools (bs.map PyData.bool)).map (b :: ·) = _; rw [bools_map bs]; rfl
theorem o_all {g : List Bool → Bool} {bs : List Bool} {Q : Sl → Prop} : oAll g [.val (.list (bs.map PyData.bool))] Q = Q (.val (.bool (g bs))) := by
  show (match bools (bs.map PyData.bool) with | some bs => Q (.val (.bool (g bs))) | none => False) = _
  rw [bools_map]
/-- a comprehension that takes each item, as it stands after a walk -/
theorem lc1 {ds : List D} {n : Nat} {Q : List D → Prop} (A : D → (Sl → Prop) → Prop) (f : D → D) (hl : ds.length ≤ sizeLine)
    (h : ∀ (i : Nat) (d : D) (R : Sl → Prop), ds[i]? = some d → (∀ s, s.elt n = some (f d) → R s) → A d R) (q : Q (ds.map f)) :
    ∃ P : Nat → List D → Prop, P 0 [] ∧ (∀ i d acc, ds[i]? = some d → P i acc → A d (fun s => ∃ d', s.elt n = some d' ∧ acc.length < sizeLine ∧ P (i + 1) (acc ++ [d']))) ∧ ∀ acc, P ds.length acc → Q acc := by
  refine ⟨fun i acc => acc = (ds.take i).map f, by simp, fun i d acc hd e => ?_, fun acc e => ?_⟩
  · subst e
    have hi : i < ds.length := (List.getElem?_eq_some_iff.mp hd).1
    exact h i d (fun s => ∃ d', s.elt n = some d' ∧ ((ds.take i).map f).length < sizeLine ∧ (ds.take i).map f ++ [d'] = (ds.take (i + 1)).map f) hd (fun s hs => ⟨f d, hs, by rw [List.length_map, List.length_take]; omega, by
      rw [List.take_add_one, hd]; simp⟩)
  · subst e
    rw [List.take_length]; exact q
theorem lcS {l : List Nat} {n : Nat} {Q : List D → Prop} (A : D → (Sl → Prop) → Prop) (f : Nat → D) (hl : l.length ≤ sizeLine)
    (h : ∀ (i : Nat) (c : Nat) (R : Sl → Prop), l[i]? = some c → (∀ s, s.elt n = some (f c) → R s) → A (.str ⟨#[c]⟩) R) (q : Q (l.map f)) :
    ∃ P : Nat → List D → Prop, P 0 [] ∧ (∀ i d acc, (l.map fun c => PyData.str ⟨#[c]⟩)[i]? = some d → P i acc → A d (fun s => ∃ d', s.elt n = some d' ∧ acc.length < sizeLine ∧ P (i + 1) (acc ++ [d']))) ∧ ∀ acc, P (l.map fun c => PyData.str ⟨#[c]⟩).length acc → Q acc := by
  refine ⟨fun i acc => acc = (l.take i).map f, by simp, fun i d acc hd e => ?_, fun acc e => ?_⟩
  · subst e
    rw [List.getElem?_map] at hd
    cases hc : l[i]? with
    | none => rw [hc] at hd; cases hd
    | some c =>
      rw [hc] at hd
      cases hd
      have hi : i < l.length := (List.getElem?_eq_some_iff.mp hc).1
      exact h i c (fun s => ∃ d', s.elt n = some d' ∧ ((l.take i).map f).length < sizeLine ∧ (l.take i).map f ++ [d'] = (l.take (i + 1)).map f) hc (fun s hs => ⟨f c, hs, by rw [List.length_map, List.length_take]; omega, by
        rw [List.take_add_one, hc]; simp⟩)
  · subst e
    rw [List.length_map, List.take_length]; exact q
theorem kit_nb : L2.kitB "NoneType" "bool" = some false := by decide +kernel
theorem kit_ni : L2.kitB "NoneType" "int" = some false := by decide +kernel
theorem kit_ns : L2.kitB "NoneType" "str" = some false := by decide +kernel
theorem kit_nl : L2.kitB "NoneType" "list" = some false := by decide +kernel
theorem kit_nt : L2.kitB "NoneType" "tuple" = some false := by decide +kernel
theorem kit_bb : L2.kitB "bool" "bool" = some true := by decide +kernel
theorem kit_bi : L2.kitB "bool" "int" = some true := by decide +kernel
theorem kit_bs : L2.kitB "bool" "str" = some false := by decide +kernel
theorem kit_bl : L2.kitB "bool" "list" = some false := by decide +kernel
theorem kit_bt : L2.kitB "bool" "tuple" = some false := by decide +kernel
theorem kit_ib : L2.kitB "int" "bool" = some false := by decide +kernel
theorem kit_ii : L2.kitB "int" "int" = some true := by decide +kernel
theorem kit_is : L2.kitB "int" "str" = some false := by decide +kernel
theorem kit_il : L2.kitB "int" "list" = some false := by decide +kernel
theorem kit_it : L2.kitB "int" "tuple" = some false := by decide +kernel
theorem kit_sb : L2.kitB "str" "bool" = some false := by decide +kernel
theorem kit_si : L2.kitB "str" "int" = some false := by decide +kernel
theorem kit_ss : L2.kitB "str" "str" = some true := by decide +kernel
theorem kit_sl : L2.kitB "str" "list" = some false := by decide +kernel
theorem kit_st : L2.kitB "str" "tuple" = some false := by decide +kernel
theorem kit_lb : L2.kitB "list" "bool" = some false := by decide +kernel
theorem kit_li : L2.kitB "list" "int" = some false := by decide +kernel
theorem kit_ls : L2.kitB "list" "str" = some false := by decide +kernel
theorem kit_ll : L2.kitB "list" "list" = some true := by decide +kernel
theorem kit_lt : L2.kitB "list" "tuple" = some false := by decide +kernel
theorem kit_tb : L2.kitB "tuple" "bool" = some false := by decide +kernel
theorem kit_ti : L2.kitB "tuple" "int" = some false := by decide +kernel
theorem kit_ts : L2.kitB "tuple" "str" = some false := by decide +kernel
theorem kit_tl : L2.kitB "tuple" "list" = some false := by decide +kernel
theorem kit_tt : L2.kitB "tuple" "tuple" = some true := by decide +kernel
theorem p_10_3 : L2.CPow 10 3 = True := eq_true ⟨by decide, by decide, by decide⟩
theorem t_10_3 : (10 : Int) ^ Int.toNat 3 = 1000 := by decide
theorem p_10_6 : L2.CPow 10 6 = True := eq_true ⟨by decide, by decide, by decide⟩
theorem t_10_6 : (10 : Int) ^ Int.toNat 6 = 1000000 := by decide
theorem p_10_12 : L2.CPow 10 12 = True := eq_true ⟨by decide, by decide, by decide⟩
theorem t_10_12 : (10 : Int) ^ Int.toNat 12 = 1000000000000 := by decide
theorem p_10_18 : L2.CPow 10 18 = True := eq_true ⟨by decide, by decide, by decide⟩
theorem t_10_18 : (10 : Int) ^ Int.toNat 18 = 1000000000000000000 := by decide
end VL

set_option Elab.async false
set_option linter.all false
set_option maxRecDepth 100000
set_option maxHeartbeats 2000000
/-! VH: a def that is handed the exception at hand; try. -/
namespace VL
open PySem PySem.Spec PyProof.Rows L2 L2H
/-- what such a def promises: p is the exception -/
structure FnE (P : Program) (Wd : World) (K : PySem.W.Frag) (mg : Str → Option Value) (base : Heap) (cx : CXT) (k : Nat) (f : Addr) (fd : FuncData) (ps : List Str) (sp : Addr × Obj → Sp) : Prop where
  len : ∀ p vs H Q E, sp p vs H Q E → vs.length = ps.length
  go : ∀ (A : Around) (outer : List Env) (s : Shared) (H : Hp) (args : Args) (us : List Value) (vs : List V) (Q : VK) (E : XK) (p : Addr × Obj), RoomH k A → PinOk outer H s p → Env0 P Wd K mg base A outer s H →
    BindsTo s fd args (ps.zip us) → Vals vs us → sp p vs H Q E → codeAny (model P Wd) A (.call (.ref f) args) (CR cx outer P Wd H s Q E) s
theorem fnE_of {cx : CXT} {P : Program} {Wd : World} {K : PySem.W.Frag} {mg : Str → Option Value} {base : Heap} {k : Nat} {f : Addr} {fd : FuncData} {x qual : Str} {st : Stmt} {N ps : List Str} {sp : Addr × Obj → Sp}
    (Fn : FunD K x qual (defArgs st) (defBody st) (defScope st) [] [] f fd) (S : FnScope N ps (defScope st)) (hlen : ∀ p vs H Q E, sp p vs H Q E → vs.length = ps.length)
    (body : ∀ (cdv : Value) (A : Around) (outer : List Env) (s : Shared) (H : Hp) (vs : List V) (Q : VK) (E : XK) (p : Addr × Obj), RoomH k (A.deeper (envOfC qual (defScope st) s.heap.objs.size f cdv)) → sp p vs H Q E →
      ∃ t, PSs (cxH cx P Wd K mg base N qual (defScope st) f cdv A outer s H E p) (defBody st) t ∧ t { nx := fun _ H' => Q .non H', rt := Q } (L2.start N vs) H) : FnE P Wd K mg base cx (k + 1) f fd ps sp := by
  obtain ⟨oc, od, dV, kV, doc, pm, an, cdv, ct, osl, rfl, lk, hcd, -, -⟩ := Fn.ex
  refine ⟨hlen, ?_⟩
  intro A outer s H args us vs Q E p room pin e0 bnd rel q
  have keepB : ∀ b o, base.get? b = some o → s.heap.get? b = some o := fun b o e => (e0.bs b o e).1
  have hkinds : ∀ y ∈ ps.zip us, (defScope st).names.lookup y.1 = some .local ∨ ((defScope st).names.lookup y.1 = some .cell ∧ ((cellsFrom (s.heap.objs.size + 1) (defScope st).names []).lookup y.1).isSome = true) := by
    rintro ⟨n, v⟩ hy
    rcases S.par n (List.of_mem_zip hy).1 with z | z
    · exact .inl z
    · exact .inr ⟨z, PySem.W.cellsFrom_some _ _ _ (.inl z)⟩
  have inK : K.In s.heap := e0.mod.kin.keeps keepB
  refine codeAny_call_function room.depth (inK _ _ lk) rfl S.co S.gen rfl (PySem.W.codeRec_of inK hcd) (bnd _ _ _ _ (wpAny_newFunctionEnv_cells S.kind hkinds ?_))
  intro env he s1 x1
  subst he
  refine ⟨(e0.mod.nolimit.keeps keepB).keeps x1.toInCall.keep, codeAny_func ?_⟩
  obtain ⟨t, pt, ht⟩ := body cdv A outer s H vs Q E p (room.deeper _) q
  have J0 := inv_startH (cd := cdv) (E := E) (f := f) (CX := cx) S pin e0 (hlen _ _ _ _ _ q) rel x1
  refine wpAny_mono (pt.run [] s1 _ H _ J0 ht) (fun fl s2 hfl => ?_) fun _ _ z => z
  cases fl with
  | ret u => obtain ⟨v, _, H', J, rv, z⟩ := hfl; exact ⟨v, H', J.os, J.bare, J.base, J.hok, rv, z⟩
  | next => obtain ⟨_, H', J, z⟩ := hfl; exact ⟨.non, H', J.os, J.bare, J.base, J.hok, rfl, z⟩
  | brk => exact hfl.elim fun _ z => z.elim fun _ z => z.2.elim
  | cont => exact hfl.elim fun _ z => z.elim fun _ z => z.2.elim
/-- the call, where the exception p is at hand -/
theorem pe_callE {X : Cx} {cx : CXT} {k : Nat} {f : Addr} {fd : FuncData} {ps : List Str} {sp : Addr × Obj → Sp} {E : L2.St → XK} {x : Str} {pos q : Pos} {e : Expr} {es : List Expr} {t : TA} {p : Addr × Obj} (F : FnE X.prog X.w X.K X.mg X.base cx k f fd ps sp) (hr : RoomH k X.A) (hp : p ∈ X.pn)
    (hg : Gl X x) (hm : X.mg x = some (.ref f)) (hk : PySem.W.keepIn X.K (.ref f) = true) (hb : Binds X.K fd ps []) (hx : ∀ σ, PassesAt cx X σ (E σ)) (ha : PA X (e :: es) t) (hdb : (x == ("__debug__" : Str)) = false := by decide)
    (he : starEach (e :: es) X.env = (false, eval e X.env) :: starEach es X.env := by rfl) (hpl : (backTo pos (starEach es X.env)).any (·.1) = false := by rfl) : PE X (.Call (.Name x q) (e :: es) [] pos) (tCallS (sp p) E t) := by
  constructor
  intro pins s σ H Q I h
  refine wpAny_Call_Name_kw (ld_glob I hg hm (PySem.W.callWith_K (h₀ := X.base) I.ok.mod.kin hk (thn (ha.run pos pins s σ H _ I h) ?_) he hpl) hdb)
  rintro us s1 ⟨vs, H1, I1, r, z⟩
  refine ⟨I1.kIn, wpAny_call ?_⟩
  have b := hb s1 us I1.kIn (by rw [List.append_nil, ← r.length]; exact F.len _ _ _ _ _ z)
  rw [List.append_nil] at b
  obtain ⟨g1, g2, g3, g4, g5⟩ := I1.pin p (List.mem_append_left _ hp)
  have pin : PinOk X.stack H1 s1 p := ⟨g1, g2, fun m => (List.mem_cons.mp (I1.stkSub p.1 m)).elim g3 g4, g5⟩
  refine codeAny_mono (F.go X.A X.stack s1 H1 ⟨us, []⟩ us vs Q (E σ) p hr pin I1.env0 b r z) fun r' s2 hq => ?_
  rcases r' with e' | fl
  · exact hx σ pins H1 s1 e' s2 I1 hq
  · cases fl with
    | ret u => exact I1.after hq
    | _ => exact hq.elim

/-! ### isinstance of the exception at hand -/
def rIsP (K : PySem.W.Frag) (D : Value) (a : Addr) : List V → Hp → VK → Prop := fun xs H Q => ∃ (c : V) (cv : Value) (b : Bool), xs = [.ref a, c] ∧ (∀ u, RelV c u → u = cv) ∧ PySem.W.kitOne K D cv = some b ∧ Q (.bl b) H
theorem call_isP {X : Cx} {D : Addr} {p : Addr × Obj} (C : ExcC X.K D) (hz : Zc (.ref D) none p.2) (hf : ∃ vs, p.2.data = .fields vs) (hp : p ∈ X.pn) : CallR X (.builtin "isinstance") (rIsP X.K (.ref D) p.1) := by
  intro pins s σ H xs us Q I rel h
  obtain ⟨c, cv, b, rfl, one, kt, q⟩ := h
  cases rel with
  | cons r1 rest =>
    cases rest with
    | cons r2 rest =>
      cases rest
      cases r1
      have z := one _ r2
      subst z
      have there := (I.pin p (List.mem_append_left _ hp)).1
      obtain ⟨vs, hv⟩ := hf
      obtain ⟨pa, ⟨oc, od, oda, osl⟩⟩ := p
      obtain ⟨z1, z2⟩ := hz
      simp only at z1 z2 hv
      subst z1 z2 hv
      exact PySem.W.kia_one (PySem.W.handS_kitx_exc C.hg C.hk C.hs C.hd C.ha C.hn C.ht C.hm) I.kIn ⟨there, rfl, rfl, trivial⟩ kt (fun z => nomatch z) fun tk => ⟨.bl b, H, I.kept (t' := tk) fun _ _ z => z, rfl, q⟩
def oIsP (K : PySem.W.Frag) (D : Value) (a : Addr) : OC := fun ss Q => match ss with
  | [.raw x, .raw c] => x = .ref a ∧ ∃ (cv : Value) (b : Bool), (∀ u, RelV c u → u = cv) ∧ PySem.W.kitOne K D cv = some b ∧ Q (.val (.bool b))
  | _ => False
theorem sim_isP {K : PySem.W.Frag} {D : Value} {a : Addr} : SimC K (rIsP K D a) (oIsP K D a) := by
  intro U B H vs ss Qv Q hB hu ar ho k
  unfold oIsP at ho
  split at ho
  · obtain ⟨rfl, cv, b, h1, h2, h3⟩ := ho
    cases ar with
    | raw r =>
      cases r with
      | raw r =>
        cases r
        exact ⟨_, cv, b, rfl, h1, h2, k _ _ B H [] (Mv.refl hB) (.val (.bl _)) h3⟩
  · exact ho.elim
section
variable {X : Cx} {W : WX} {pos : Pos}
theorem ve_isP {D : Addr} {a : Addr × Obj} (C : ExcC X.K D) (hz : Zc (.ref D) none a.2) (hf : ∃ vs, a.2.data = .fields vs) (ha : a ∈ X.pn) {p : Pos} {e c : Expr} {w wc : WE} (hg : Gl X "isinstance") (hm : X.mg "isinstance" = none) (h : VE X W e w) (h2 : VE X W c wc)
    (hs : starEach (e :: [c]) X.env = (false, eval e X.env) :: starEach [c] X.env := by rfl) (hs2 : starEach (c :: []) X.env = (false, eval c X.env) :: starEach [] X.env := by rfl) (hpl : (backTo pos (starEach [c] X.env)).any (·.1) = false := by rfl) :
    VE X W (.Call (.Name "isinstance" p) [e, c] [] pos) (wB (oIsP X.K (.ref D) a.1) (wConsA w (wConsA wc wNil))) := ve_callB (call_isP C hz hf ha) sim_isP hg hm (by decide +kernel) (va_cons h (va_cons h2 va_nil hs2) hs) (by decide) (by decide) hs hpl
end

/-! ### which of the refusals it is -/
def refusals : List (Str × Str) := [("NoFraction", "fraction"), ("NoPolynomial", "polynomial"), ("NoStretch", "stretch"), ("NoRow", "row"), ("NoPair", "pair"), ("NoBack", "back"), ("NoForm", "form"), ("NoParts", "parts"),
  ("NoDegree", "degree"), ("NoSteps", "steps"), ("NoBox", "box"), ("NoGain", "gain"), ("NoText", "text"), ("NoLine", "line"), ("NoName", "name"), ("NoDeed", "deed")]
/-- c is the i-th of the refusals, and isinstance tells so -/
structure WhichIs (K : PySem.W.Frag) (c : Value) (i : Nat) : Prop where
  lt : i < 16
  cls : ∃ n, refusals[i]? = some n ∧ c = .ref (He.ga K n.1) ∧ ExcC K (He.ga K n.1)
  all : ∀ j n, refusals[j]? = some n → PySem.W.kitOne K c (.ref (He.ga K n.1)) = some (decide (j = i))
  val : PySem.W.kitOne K c (.type "ValueError") = some true
def whichT (i : Nat) : Str := match refusals[i]? with
  | some n => n.2
  | none => ""
/-- what the def that tells it promises, handed the exception p -/
def spWhich (K : PySem.W.Frag) : Addr × Obj → Sp := fun p vs H Q _ => ∃ (c : Value) (i : Nat), vs = [.ref p.1] ∧ Zc c none p.2 ∧ (∃ xs, p.2.data = .fields xs) ∧ WhichIs K c i ∧ ∀ H', Ext H H' → Q (.str (whichT i)) H'
/-- the def with its promise -/
structure Fw (P : Program) (Wd : World) (K : PySem.W.Frag) (mg : Str → Option Value) (base : Heap) (k : Nat) : Prop where
  ex : ∃ (f : Addr) (fd : FuncData) (ps : List Str), FnE P Wd K mg base (L2.CX P Wd) k f fd ps (spWhich K) ∧ mg "_law_which" = some (.ref f) ∧ PySem.W.keepIn K (.ref f) = true ∧ Binds K fd ps []
def oWhich (K : PySem.W.Frag) (c : Value) (a : Addr) : OC := fun ss Q => match ss with
  | [.raw x] => x = .ref a ∧ ∃ i, WhichIs K c i ∧ Q (.val (.str (whichT i)))
  | _ => False
section
variable {X : Cx} {W : WX} {pos : Pos}
theorem ve_which {k : Nat} {p : Addr × Obj} {c : Value} (Fn : Fw X.prog X.w X.K X.mg X.base k) (hr : RoomH k X.A) (tk : Takes X W) (hz : Zc c none p.2) (hf : ∃ vs, p.2.data = .fields vs) (hp : p ∈ X.pn) {q : Pos} {e : Expr} {w : WE} (hg : Gl X "_law_which") (h : VE X W e w)
    (hs : starEach (e :: []) X.env = (false, eval e X.env) :: starEach [] X.env := by rfl) (hpl : (backTo pos (starEach [] X.env)).any (·.1) = false := by rfl) : VE X W (.Call (.Name "_law_which" q) [e] [] pos) (wB (oWhich X.K c p.1) (wConsA w wNil)) := by
  obtain ⟨f, fd, ps, F, hm, hk, hb⟩ := Fn.ex
  obtain ⟨ta, pa, sa⟩ := (va_cons h va_nil hs).ex
  refine ⟨_, pe_callE F hr hp hg hm hk hb (fun σ => passAt tk σ) pa (by decide) hs hpl, fun U0 B0 H0 U ρ σ B H As Qv Ev Q x hw kq ke => ?_⟩
  have hu : ∀ u, U = some u → UrnC H u := fun u q => (x.uC u q).1
  refine sa _ _ _ _ _ _ _ _ _ _ _ _ x hw (fun ss vs B1 H1 m1 r1 q1 => ?_) ke
  unfold oWhich at q1
  split at q1
  · obtain ⟨rfl, i, wi, q1⟩ := q1
    cases r1 with
    | raw r =>
      cases r
      refine ⟨c, i, rfl, hz, hf, wi, fun H' ex => ?_⟩
      have m2 : Mv U B1 H1 B1 H' := ⟨Ext.refl _, m1.eh.trans ex, fun a o e _ => ex a o e, fun a o e => .inl e, fun u _ uc => ⟨uc.choose, uc.choose_spec.choose, uc.choose_spec.choose_spec.choose, ex _ _ uc.choose_spec.choose_spec.choose_spec.1, uc.choose_spec.choose_spec.choose_spec.2⟩⟩
      exact kq _ _ B1 H' [] (m1.trans' m2 hu) (.val (.str _)) q1
  · exact q1.elim

/-! ### try -/
/-- the readings that a value reading of statements has at the least -/
def tsOf (K : PySem.W.Frag) (W : WX) (w : WS) : TS := fun Dn σ H => ∃ U0 B0 H0 U ρ B As Dv, StOk K U0 B0 H0 U ρ σ B H As ∧ w Dv ρ ∧
  (∀ U' ρ' σ' B' H' As', StOk K U0 B0 H0 U' ρ' σ' B' H' As' → Ext B B' → Dv.nx ρ' → Dn.nx σ' H') ∧
  (∀ U' ρ' σ' B' H' As', StOk K U0 B0 H0 U' ρ' σ' B' H' As' → Ext B B' → Dv.bk ρ' → Dn.bk σ' H') ∧
  (∀ U' ρ' σ' B' H' As', StOk K U0 B0 H0 U' ρ' σ' B' H' As' → Ext B B' → Dv.ct ρ' → Dn.ct σ' H') ∧
  (∀ s v B' H' A, Mv U0 B0 H0 B' H' → RsOk K U0 H0 B' H' v s A → Dv.rt s → Dn.rt v H') ∧
  (∀ c U' ρ' σ' B' H' As', StOk K U0 B0 H0 U' ρ' σ' B' H' As' → Dv.ex c → W c none σ' H')
theorem VSs.can {sts : List Stmt} {w : WS} (h : VSs X W sts w) : PSs X sts (tsOf X.K W w) := by
  obtain ⟨t, p, s⟩ := h.ex
  exact ⟨fun pins s' σ H D I ⟨U0, B0, H0, U, ρ, B, As, Dv, x, hw, k1, k2, k3, k4, k5⟩ => p.run pins s' σ H D I (s U0 B0 H0 U ρ σ B H As Dv D x hw k1 k2 k3 k4 k5)⟩
/-- try: a, except the class cc as slot i: the suite wh, that ends by a return (n slots there are) -/
def wTryR (K : PySem.W.Frag) (n i : Nat) (cc : Value) (a : WS) (wh : Addr → Value → WS) : WS := fun D ρ =>
  a { D with ex := fun c => ∃ b, PySem.W.exmOne K c cc = some b ∧ (b = true → ∀ (ad : Addr) (ρ' : Sts), ρ'.length = n → wh ad c { nx := fun _ => False, rt := D.rt, ex := fun _ => False } (ρ'.set i (.raw (.ref ad)))) ∧ (b = false → D.ex c) } ρ
theorem vs_tryR {x n : Str} {c : Value} {i : Nat} {body suite : List Stmt} {b₀ : Stmt} {np pos' : Pos} {wa : WS} {wh : Addr → Value → WS} (hs : X.stack = X.env :: X.outer) (hf : X.env.frame = some X.env.locals) (hN : X.N.Nodup) (hi : X.N[i]? = some n) (hln : X.env.kindOf n = some .local) (hc : Names X x c) (tk : Takes X W)
    (hb : ∀ (W' : WX) (pn : List (Addr × Obj)) (xe : Value → Shared → Prop), Takes (X.tr pn xe) W' → VSs (X.tr pn xe) W' body wa)
    (hsu : ∀ (p : Addr × Obj) (cls : Value) (pn : List (Addr × Obj)), Zc cls none p.2 → (∃ vs, p.2.data = .fields vs) → VSs (X.suite p.1 (p :: pn)) W0 (b₀ :: suite) (wh p.1 cls)) :
    VS X W (.Try body [.ExceptHandler (some (.Name x np)) (some n) (b₀ :: suite) pos'] [] [] pos) (wTryR X.K X.N.length i c wa wh) := by
  refine ⟨_, L2.ps_try_as (Wout := W) (tb := fun W' => tsOf X.K W' wa) (ts := fun a cls d => fun Dn σ H => d = none ∧ (σ.length = X.N.length → tsOf X.K W0 (wh a cls) Dn σ H)) hs hf hN hi hln hc tk (fun W' pn xe tk' _ => (hb W' pn xe tk').can) (fun a oe cls d pn hz hf' => ?_), ?_⟩
  · refine ⟨fun pins s σ H Dn I ⟨hd, ht⟩ => ?_⟩
    subst hd
    exact ((hsu (a, oe) cls pn hz hf').can).run pins s σ H Dn I (ht I.len)
  · intro U0 B0 H0 U ρ σ B H As Dv Dn x hw kn kb kc kr ke
    refine ⟨U0, B0, H0, U, ρ, B, As, _, x, hw, kn, kb, kc, kr, fun c' U' ρ' σ' B' H' As' y q => ?_⟩
    obtain ⟨b, e1, e2, e3⟩ := q
    refine ⟨b, e1, fun hb' a na => ⟨rfl, fun hl => ?_⟩, fun hb' => ke c' U' ρ' σ' B' H' As' y (e3 hb')⟩
    have ln : ρ'.length = X.N.length := by rw [← y.len]; simpa using hl
    have hii : i < ρ'.length := by rw [ln]; exact (List.getElem?_eq_some_iff.mp hi).1
    have z : StOk X.K U0 B0 H0 U' (ρ'.set i (.raw (.ref a))) (σ'.set i (some (.ref a))) B' H' (upA As' i []) := y.set (Mv.refl y.ext) (RsOk.raw (v := .ref a)) i hii
    refine ⟨U0, B0, H0, U', _, B', _, _, z, e2 hb' a ρ' ln, fun _ _ _ _ _ _ _ _ q => q.elim, fun _ _ _ _ _ _ _ _ q => q.elim, fun _ _ _ _ _ _ _ _ q => q.elim, kr, fun _ _ _ _ _ _ _ _ q => q.elim⟩
end

/-! ### the def that tells which -/
theorem L2H_units {k : Nat} {A : Around} (r : RoomH k A) : A.units + 64 < cLine := by have := r.un; omega
theorem fw_of {P : Program} {Wd : World} {K : PySem.W.Frag} {mg : Str → Option Value} {base : Heap} {k : Nat} {f : Addr} {fd : FuncData} {st : Stmt} {N : List Str} {e : Str} (Fn : FunD K "_law_which" "_law_which" (defArgs st) (defBody st) (defScope st) [] [] f fd) (S : FnScope N [e] (defScope st))
    (g : mg "_law_which" = some (.ref f)) (w : Value → Addr → WS)
    (body : ∀ (D : Addr) (p : Addr × Obj) (cdv : Value) (A : Around) (outer : List Env) (s : Shared) (H : Hp) (E : XK), ExcC K D → Zc (.ref D) none p.2 → (∃ xs, p.2.data = .fields xs) → RoomH k (A.deeper (envOfC "_law_which" (defScope st) s.heap.objs.size f cdv)) →
      VSs (cxH (L2.CX P Wd) P Wd K mg base N "_law_which" (defScope st) f cdv A outer s H E p) W0 (defBody st) (w (.ref D) p.1))
    (sem : ∀ (c : Value) (a : Addr) (i : Nat) (Qv : Sl → Prop), WhichIs K c i → Qv (.val (.str (whichT i))) → w c a { nx := fun _ => Qv (.val .none), rt := Qv, ex := fun _ => False } (rho0 N [.raw (.ref a)]))
    (hb : Binds K fd [e] []) : Fw P Wd K mg base (k + 1) := by
  refine ⟨f, fd, [e], fnE_of Fn S (fun p vs H Q E h => ?_) (fun cdv A outer s H vs Q E p hr h => ?_), g, Fn.kp, hb⟩
  · obtain ⟨_, _, rfl, _⟩ := h
    rfl
  · obtain ⟨c, i, rfl, hz, hf, wi, kq⟩ := h
    obtain ⟨n, hn, rfl, ec⟩ := wi.cls
    obtain ⟨t, pt, sim⟩ := (body _ p cdv A outer s H E ec hz hf hr).ex
    have hpl : 1 ≤ N.length := by have := congrArg List.length S.pre; rw [List.length_take] at this; simp at this; omega
    have ar : ArOk K none H [.ref p.1] [.raw (.ref p.1)] := .raw .nil
    have x0 : StOk K none H H none (rho0 N [.raw (.ref p.1)]) (L2.start N [.ref p.1]) H H (fun _ => []) := by
      refine ⟨?_, Mv.refl (Ext.refl _), fun u e => (nomatch e), fun i s e => ?_, fun i _ => rfl, fun i a h => (nomatch h), fun _ => List.nodup_nil, fun i j a h => (nomatch h), fun u _ i h => (nomatch h), fun u e => (nomatch e)⟩
      · unfold L2.start rho0; simp
      · unfold rho0 at e
        unfold L2.start
        by_cases hi : i < 1
        · rw [List.getElem?_append_left (by simpa using hi)] at e
          rw [List.getElem?_append_left (by simpa using hi), List.getElem?_map]
          exact ar.slot i s e
        · rw [List.getElem?_append_right (by simp; omega), List.getElem?_replicate] at e
          split at e
          · cases e; rfl
          · cases e
    refine ⟨t, pt, sim none H H none _ _ H H _ _ _ x0 (sem _ p.1 i (fun s => s = .val (.str (whichT i))) wi rfl) (fun _ _ _ _ _ _ _ _ q => by cases q) (fun _ _ _ _ _ _ _ _ q => q.elim) (fun _ _ _ _ _ _ _ _ q => q.elim) (fun s' v B' H' A' m r q => ?_) (fun _ _ _ _ _ _ _ _ q => q.elim)⟩
    subst q
    have := r.dp
    cases this
    exact kq H' fun a o e => m.kp a o e (fun z => nomatch z)
end VL
namespace VL
theorem rH_mark {k : Nat} {A : PySem.Around} {v : Option PySem.Value} (r : L2.Room k A) : L2H.RoomH k (A.mark v) := ⟨r.dp, r.un⟩
end VL

set_option Elab.async false
set_option linter.all false
set_option maxRecDepth 100000
set_option maxHeartbeats 2000000
/-! VE: a law from the promise of its def, at the values' level. -/
namespace VL
open PySem PySem.Spec PyProof.Rows L2
theorem walk_ofV {l : PySem.W.OpenLaw} {n k : Nat} {q : Program} {loose : List Str} {XP : (Str → Option Value) → Heap → Prop} {YP : World → Heap → Prop} {d : DefRec} {x : Str} (hn : l.most = some n) (hn2 : n ≤ sizeLine) (hdf : d.params.defaults = []) (hr : Room k callerA)
    (Fx : ∀ (w : World) (mg : Str → Option Value) (fa : Addr) (h : Heap), YP w h → h.Ns mainGlobals mg → mg d.name = some (.ref fa) → ∃ (K : PySem.W.Frag) (fd : FuncData) (F : FS), K.In h ∧ (∀ (s : Shared) (u : Value), BindsTo s fd ⟨[u], []⟩ [(x, u)]) ∧
      (∀ ns : List Int, ns.length ≤ n → (∀ z ∈ ns, Builtin.Int.intBits z ≤ 1048576) → F [.scr ns] (fun s => s = .val (.bool true)) (fun _ => False)) ∧ ∀ base : Heap, K.In base → base.Ns mainGlobals mg → FnOk l.prog w K mg base (L2.CX l.prog w) k fa fd [x] (spOf K 1 F)) :
    PySem.W.WalkO q loose XP YP l.row.toRowW d [] (fun f vs => PySem.call f vs) := by
  refine Att.attach_callB hn hdf fun w s₀ s₁ mg mb fa o pm cd doc a vs ns G Y ho hd hcd hmg hobj hints hlen hbits hg => ?_
  obtain ⟨K, fd, F, KX, hb, hF, hG⟩ := Fx w mg fa _ Y G.T.g hmg
  refine law_call KX G.T.g G.T.b G.T.builtins G.T.nolimit hg hobj hints (Nat.le_trans hlen hn2) hr hG hb (fun H hO hS => ?_) fun H e s' z => ?_
  · refine ⟨none, H, [.scr ns], fun s => s = .val (.bool true), fun _ => False, Ext.refl _, fun u z => (nomatch z), .scr hS .nil, rfl, hF ns hlen hbits, fun s v B' H' A m r z => ?_, fun _ _ _ _ z => z.elim⟩
    subst z
    have := r.dp
    cases this
    rfl
  · obtain ⟨_, _, _, _, _, _, _, _, _, _, _, _, z⟩ := z
    exact z
/-! ### what the classes tell, as a question to the written part -/
def excB (K : PySem.W.Frag) (D : Addr) : Bool :=
  (PySem.W.findIn K (.ref D) "__getattribute__" == some (some (.builtin "BaseException.__getattribute__"))) && (PySem.W.findIn K (.ref D) "__getattr__" == some none) && (PySem.W.subIn K (.ref D) (.type "BaseException") == some true) && PySem.W.hasDictIn K D &&
  (PySem.W.findIn K (.ref D) "__class__" == some (some (.builtin "object.__class__"))) && (PySem.W.specialIn K (.builtin "object.__class__") "__get__" == some (some (.builtin "getset_descriptor.__get__"))) && (PySem.W.takesIn K (.builtin "object.__class__") == some true) && (PySem.W.mroIn K D (.type "object") == some true)
theorem excB_ok {K : PySem.W.Frag} {D : Addr} (h : excB K D = true) : ExcC K D := by
  unfold excB at h
  simp only [Bool.and_eq_true, beq_iff_eq] at h
  obtain ⟨⟨⟨⟨⟨⟨⟨h1, h2⟩, h3⟩, h4⟩, h5⟩, h6⟩, h7⟩, h8⟩ := h
  exact ⟨h1, h2, h3, h4, h5, h6, h7, h8⟩
def whichB (K : PySem.W.Frag) (C : Str) (i : Nat) : Bool :=
  excB K (He.ga K C) && ((List.range 16).all fun j => match refusals[j]? with
    | some n => PySem.W.kitOne K (.ref (He.ga K C)) (.ref (He.ga K n.1)) == some (decide (j = i))
    | none => true) && (PySem.W.kitOne K (.ref (He.ga K C)) (.type "ValueError") == some true) && (PySem.W.exmOne K (.ref (He.ga K C)) (.ref (He.ga K "RestError")) == some true)
theorem whichB_ok {K : PySem.W.Frag} {C t : Str} {i : Nat} (h : whichB K C i = true) (hi : refusals[i]? = some (C, t)) : WhichIs K (.ref (He.ga K C)) i ∧ PySem.W.exmOne K (.ref (He.ga K C)) (.ref (He.ga K "RestError")) = some true := by
  unfold whichB at h
  simp only [Bool.and_eq_true, beq_iff_eq] at h
  obtain ⟨⟨⟨h1, h2⟩, h3⟩, h4⟩ := h
  have l16 : refusals.length = 16 := rfl
  refine ⟨⟨?_, ⟨_, hi, rfl, excB_ok h1⟩, fun j n hn => ?_, h3⟩, h4⟩
  · have := (List.getElem?_eq_some_iff.mp hi).1
    omega
  · have hj : j < 16 := by have := (List.getElem?_eq_some_iff.mp hn).1; omega
    have := List.all_eq_true.mp h2 j (List.mem_range.mpr hj)
    rw [hn] at this
    exact beq_iff_eq.mp this
end VL

set_option Elab.async false
set_option linter.all false
set_option maxRecDepth 100000
set_option maxHeartbeats 2000000
/-! numbers and their texts, plainly -/
namespace Lw
open PySem PySem.Spec PyProof.Rows L2 VL
def codes (z : Str) : List Nat := z.cps.toList
def dig (c : Nat) : Bool := decide (48 ≤ c ∧ c ≤ 57)
/-- the whole number from 0 on that a text writes -/
def figs (z : Str) : Option Int :=
  if 1 ≤ (codes z).length ∧ (codes z).length ≤ 30 ∧ (codes z).all dig = true ∧ ¬ ((codes z).head? = some 48 ∧ 1 < (codes z).length) then some ((NumText.digitsVal (codes z) : Nat) : Int) else none
def tailS (z : Str) : Str := ⟨((codes z).drop 1).toArray⟩
def readTop (z : Str) : Option Int := if (codes z).head? = some 45 then
    (match figs (tailS z) with | some n => if n = 0 then none else some (-n) | none => none) else figs z
def readN (z : Str) : Option (Int × Int) := match readTop (Txt.partition z "/").1 with
  | none => none
  | some a => if (Txt.partition z "/").2.1 = "" then some (a, 1) else match figs (Txt.partition z "/").2.2 with
    | none => none
    | some b => if b < 2 ∨ (Int.gcd a b : Int) ≠ 1 then none else some (a, b)
def readD : D → Option (Int × Int)
  | .str z => readN z
  | _ => none
def shortD : D → Prop
  | .str z => z.length ≤ sizeLine
  | _ => True
def isI : D → Bool
  | .int _ => true
  | _ => false
/-- the text of a number -/
def numT (a b : Int) : Str := if b = 1 then Str.ofString (toString a) else Str.ofString (toString a) ++ "/" ++ Str.ofString (toString b)
def lowN (a b : Int) : Int × Int := let g : Int := if b < 0 then 0 - (Int.gcd a b : Int) else (Int.gcd a b : Int)
  (a.fdiv g, b.fdiv g)
end Lw
namespace Lw
open PySem PySem.Spec PyProof.Rows VL
theorem str_ext {x y : Str} (h : codes x = codes y) : x = y := by
  cases x; cases y
  unfold codes at h
  simp only at h
  rw [Array.toList_inj.mp h]
theorem codes_len (z : Str) : (codes z).length = z.length := Array.length_toList
theorem eqv_str (x y : Str) : PyData.eqv (.str x) (.str y) = decide (x = y) := by
  show (x == y) = _
  by_cases h : x = y
  · subst h; simp
  · rw [decide_eq_false h]; simpa using h
theorem eqv_int (x y : Int) : PyData.eqv (.int x) (.int y) = decide (x = y) := by
  show (x == y) = _
  by_cases h : x = y
  · subst h; simp
  · rw [decide_eq_false h]; simpa using h
theorem c_minus : codes ("-" : Str) = [45] := by decide +kernel
theorem c_zero : codes ("0" : Str) = [48] := by decide +kernel
theorem c_empty : codes ("" : Str) = [] := by decide +kernel
theorem c_digits : codes ("0123456789" : Str) = [48, 49, 50, 51, 52, 53, 54, 55, 56, 57] := by decide +kernel
theorem cut_head (z : Str) : L2.cutS z none (some 1) = (⟨((codes z).take 1).toArray⟩ : Str) := by
  refine str_ext ?_
  unfold L2.cutS codes
  have e1 : HT.sIx z.length 0 none = 0 := rfl
  have e2 : HT.sIx z.length z.length (some 1) = min 1 z.length := HT.sIx_nat _ _ 1
  simp only [e1, e2, List.drop_zero, Nat.sub_zero]
  rw [← codes_len z]
  unfold codes
  cases z.cps.toList <;> simp
theorem cut_head_eq (z : Str) : (L2.cutS z none (some 1) = ("-" : Str)) ↔ (codes z).head? = some 45 := by
  rw [cut_head]
  constructor
  · intro h
    have := congrArg codes h
    rw [c_minus] at this
    have e : codes (⟨((codes z).take 1).toArray⟩ : Str) = (codes z).take 1 := rfl
    rw [e] at this
    cases h2 : codes z with
    | nil => rw [h2] at this; cases this
    | cons c cs => rw [h2] at this; simpa using this
  · intro h
    refine str_ext ?_
    rw [c_minus]
    show (codes z).take 1 = [45]
    cases h2 : codes z with
    | nil => rw [h2] at h; cases h
    | cons c cs => rw [h2] at h; simpa using h
theorem cut_tail (z : Str) : L2.cutS z (some 1) none = tailS z := by
  refine str_ext ?_
  unfold L2.cutS codes tailS codes
  have e1 : HT.sIx z.length 0 (some 1) = min 1 z.length := HT.sIx_nat _ _ 1
  have e2 : HT.sIx z.length z.length none = z.length := rfl
  simp only [e1, e2]
  rw [← codes_len z]
  unfold codes
  cases z.cps.toList <;> simp
theorem cut_all (z : Str) : L2.cutS z (some 0) none = z := by
  refine str_ext ?_
  unfold L2.cutS codes
  have e1 : HT.sIx z.length 0 (some 0) = min 0 z.length := HT.sIx_nat _ _ 0
  have e2 : HT.sIx z.length z.length none = z.length := rfl
  simp only [e1, e2]
  rw [← codes_len z]
  unfold codes
  simp only [Nat.zero_min, List.drop_zero, Nat.sub_zero]
  exact List.take_of_length_le (Nat.le_refl _)
theorem tail_len (z : Str) : (tailS z).length ≤ z.length := by
  rw [← codes_len, ← codes_len]
  show ((codes z).drop 1).length ≤ _
  simp
theorem mem_digits (c : Nat) : decide (c ∈ ("0123456789" : Str).cps.toList) = dig c := by
  have : ("0123456789" : Str).cps.toList = _ := c_digits
  rw [this]
  unfold dig
  by_cases h : 48 ≤ c ∧ c ≤ 57
  · rw [decide_eq_true h]
    obtain ⟨h1, h2⟩ := h
    have : c = 48 ∨ c = 49 ∨ c = 50 ∨ c = 51 ∨ c = 52 ∨ c = 53 ∨ c = 54 ∨ c = 55 ∨ c = 56 ∨ c = 57 := by omega
    rcases this with rfl | rfl | rfl | rfl | rfl | rfl | rfl | rfl | rfl | rfl <;> decide
  · rw [decide_eq_false h]
    simp only [List.mem_cons, List.not_mem_nil, or_false, decide_eq_false_iff_not]
    omega
theorem index_digits {c : Nat} (h : dig c = true) : ∃ rest, Builtin.Str.occurrences ("0123456789" : Str) ⟨#[c]⟩ 0 ("0123456789" : Str).length 1 = (c - 48) :: rest := by
  have h := of_decide_eq_true h
  obtain ⟨h1, h2⟩ := h
  have : c = 48 ∨ c = 49 ∨ c = 50 ∨ c = 51 ∨ c = 52 ∨ c = 53 ∨ c = 54 ∨ c = 55 ∨ c = 56 ∨ c = 57 := by omega
  rcases this with rfl | rfl | rfl | rfl | rfl | rfl | rfl | rfl | rfl | rfl <;> exact ⟨[], by decide +kernel⟩
theorem allDigits {l : List Nat} (h : l.all dig = true) : NumText.AllDigits l := by
  intro c hc
  exact of_decide_eq_true (List.all_eq_true.mp h c hc)
theorem figs_nonneg {z : Str} {n : Int} (h : figs z = some n) : 0 ≤ n := by
  unfold figs at h
  split at h
  · cases h; omega
  · cases h
end Lw

set_option linter.all false
set_option maxRecDepth 100000
set_option maxHeartbeats 2000000
/-! the text by places: printed by gen.py -/
namespace Lw
open PySem PySem.Spec PyProof.Rows L2 VL
def top (i : Nat) : Stmt := PySem.Challenge.pw_restward_k63_numbers_written.main.body.getD i (.Pass ⟨0, 0, 0, 0⟩)
abbrev FnP (K : PySem.W.Frag) (x : Str) (st : Stmt) (f : Addr) (fd : FuncData) : Prop := FunD K x x (defArgs st) (defBody st) (defScope st) [] [] f fd
abbrev s_shared_divisor : Stmt := top 19
abbrev N_shared_divisor : List Str := ["one", "other"]
theorem sc_shared_divisor : FnScope N_shared_divisor ["one", "other"] (defScope s_shared_divisor) := ⟨rfl, rfl, rfl, by decide +kernel, rfl, by decide +kernel, by decide +kernel⟩
abbrev s_show_number : Stmt := top 23
abbrev N_show_number : List Str := ["number"]
theorem sc_show_number : FnScope N_show_number ["number"] (defScope s_show_number) := ⟨rfl, rfl, rfl, by decide +kernel, rfl, by decide +kernel, by decide +kernel⟩
abbrev s_read_figures : Stmt := top 24
abbrev N_read_figures : List Str := ["text", "sign"]
theorem sc_read_figures : FnScope N_read_figures ["text"] (defScope s_read_figures) := ⟨rfl, rfl, rfl, by decide +kernel, rfl, by decide +kernel, by decide +kernel⟩
abbrev s_read_top : Stmt := top 25
abbrev N_read_top : List Str := ["text", "found"]
theorem sc_read_top : FnScope N_read_top ["text"] (defScope s_read_top) := ⟨rfl, rfl, rfl, by decide +kernel, rfl, by decide +kernel, by decide +kernel⟩
abbrev s_read_number : Stmt := top 26
abbrev N_read_number : List Str := ["text", "ahead", "stroke", "behind", "top", "bottom"]
theorem sc_read_number : FnScope N_read_number ["text"] (defScope s_read_number) := ⟨rfl, rfl, rfl, by decide +kernel, rfl, by decide +kernel, by decide +kernel⟩
abbrev s_law_urn : Stmt := top 28
abbrev N_law_urn : List Str := ["_law_script", "_law_at", "_law_cell", "_law_prime", "_law_great"]
theorem sc_law_urn : FnScope N_law_urn ["_law_script", "_law_at"] (defScope s_law_urn) := ⟨rfl, rfl, rfl, by decide +kernel, rfl, by decide +kernel, by decide +kernel⟩
abbrev s_law_draw : Stmt := top 29
abbrev N_law_draw : List Str := ["_law_urn_here", "_law_many", "_law_drawn"]
theorem sc_law_draw : FnScope N_law_draw ["_law_urn_here", "_law_many"] (defScope s_law_draw) := ⟨rfl, rfl, rfl, by decide +kernel, rfl, by decide +kernel, by decide +kernel⟩
abbrev s_law_low : Stmt := top 30
abbrev N_law_low : List Str := ["_law_top", "_law_bottom", "_law_one", "_law_other"]
theorem sc_law_low : FnScope N_law_low ["_law_top", "_law_bottom"] (defScope s_law_low) := ⟨rfl, rfl, rfl, by decide +kernel, rfl, by decide +kernel, by decide +kernel⟩
abbrev s_law_kind : Stmt := top 31
abbrev N_law_kind : List Str := ["_law_urn_here"]
theorem sc_law_kind : FnScope N_law_kind ["_law_urn_here"] (defScope s_law_kind) := ⟨rfl, rfl, rfl, by decide +kernel, rfl, by decide +kernel, by decide +kernel⟩
abbrev s_law_number : Stmt := top 32
abbrev N_law_number : List Str := ["_law_urn_here", "_law_kind_here", "_law_top"]
theorem sc_law_number : FnScope N_law_number ["_law_urn_here", "_law_kind_here"] (defScope s_law_number) := ⟨rfl, rfl, rfl, by decide +kernel, rfl, by decide +kernel, by decide +kernel⟩
abbrev s_law_whole : Stmt := top 33
abbrev N_law_whole : List Str := ["_law_thing"]
theorem sc_law_whole : FnScope N_law_whole ["_law_thing"] (defScope s_law_whole) := ⟨rfl, rfl, rfl, by decide +kernel, rfl, by decide +kernel, by decide +kernel⟩
abbrev s_law_is_number : Stmt := top 34
abbrev N_law_is_number : List Str := ["_law_thing"]
theorem sc_law_is_number : FnScope N_law_is_number ["_law_thing"] (defScope s_law_is_number) := ⟨rfl, rfl, rfl, by decide +kernel, rfl, by decide +kernel, by decide +kernel⟩
abbrev s_law_which : Stmt := top 35
abbrev N_law_which : List Str := ["_law_e", "_law_told", "_law_names"]
theorem sc_law_which : FnScope N_law_which ["_law_e"] (defScope s_law_which) := ⟨rfl, rfl, rfl, by decide +kernel, rfl, by decide +kernel, by decide +kernel⟩
abbrev s_law_figures : Stmt := top 36
abbrev N_law_figures : List Str := ["_law_text", "_law_sign", "_law_found"]
theorem sc_law_figures : FnScope N_law_figures ["_law_text"] (defScope s_law_figures) := ⟨rfl, rfl, rfl, by decide +kernel, rfl, by decide +kernel, by decide +kernel⟩
abbrev s_law_read_number : Stmt := top 37
abbrev N_law_read_number : List Str := ["_law_text", "_law_ahead", "_law_stroke", "_law_behind", "_law_minus", "_law_top", "_law_bottom", "_law_found"]
theorem sc_law_read_number : FnScope N_law_read_number ["_law_text"] (defScope s_law_read_number) := ⟨rfl, rfl, rfl, by decide +kernel, rfl, by decide +kernel, by decide +kernel⟩
abbrev s_law_show_number : Stmt := top 38
abbrev N_law_show_number : List Str := ["_law_number_here"]
theorem sc_law_show_number : FnScope N_law_show_number ["_law_number_here"] (defScope s_law_show_number) := ⟨rfl, rfl, rfl, by decide +kernel, rfl, by decide +kernel, by decide +kernel⟩
abbrev s_law_spoilt : Stmt := top 39
abbrev N_law_spoilt : List Str := ["_law_urn_here", "_law_text", "_law_every", "_law_turn", "_law_way", "_law_place", "_law_sign"]
theorem sc_law_spoilt : FnScope N_law_spoilt ["_law_urn_here", "_law_text"] (defScope s_law_spoilt) := ⟨rfl, rfl, rfl, by decide +kernel, rfl, by decide +kernel, by decide +kernel⟩
abbrev s_law_far_number : Stmt := top 40
abbrev N_law_far_number : List Str := ["_law_urn_here", "_law_top", "_law_bottom", "_law_turn"]
theorem sc_law_far_number : FnScope N_law_far_number ["_law_urn_here"] (defScope s_law_far_number) := ⟨rfl, rfl, rfl, by decide +kernel, rfl, by decide +kernel, by decide +kernel⟩
abbrev s_law_said : Stmt := top 41
abbrev N_law_said : List Str := ["_law_thing", "_law_found", "_law_e"]
theorem sc_law_said : FnScope N_law_said ["_law_thing"] (defScope s_law_said) := ⟨rfl, rfl, rfl, by decide +kernel, rfl, by decide +kernel, by decide +kernel⟩
abbrev s_law_is_read : Stmt := top 42
abbrev N_law_is_read : List Str := ["_law_text", "_law_due", "_law_found"]
theorem sc_law_is_read : FnScope N_law_is_read ["_law_text"] (defScope s_law_is_read) := ⟨rfl, rfl, rfl, by decide +kernel, rfl, by decide +kernel, by decide +kernel⟩
abbrev s_law : Stmt := top 43
abbrev N_law : List Str := ["_law_script", "_law_at", "_law_urn_here", "_law_number_here", "_law_text", "_law_some", "_law_turn", "_law_found", "_law_one", "_law_thing"]
theorem sc_law : FnScope N_law ["_law_script"] (defScope s_law) := ⟨rfl, rfl, rfl, by decide +kernel, rfl, by decide +kernel, by decide +kernel⟩
def k_FIGURES : D := .str "0123456789"
def k_MOST_FIGURES : D := .int 30
structure Tx (K : PySem.W.Frag) (mg : Str → Option Value) : Prop where
  n_abs : mg "abs" = none
  n_str : mg "str" = none
  n_all : mg "all" = none
  c_FIGURES : ConstF K mg "FIGURES" k_FIGURES
  n_len : mg "len" = none
  c_MOST_FIGURES : ConstF K mg "MOST_FIGURES" k_MOST_FIGURES
  r_NoText : RaiseF K mg "NoText"
  n_int : mg "int" = none
  n_isinstance : mg "isinstance" = none
  n_bool : mg "bool" = none
  n_tuple : mg "tuple" = none
  g_NoRow : mg "NoRow" = some (.ref (He.ga K "NoRow"))
  g_NoStretch : mg "NoStretch" = some (.ref (He.ga K "NoStretch"))
  g_NoPolynomial : mg "NoPolynomial" = some (.ref (He.ga K "NoPolynomial"))
  g_NoFraction : mg "NoFraction" = some (.ref (He.ga K "NoFraction"))
  g_NoParts : mg "NoParts" = some (.ref (He.ga K "NoParts"))
  g_NoForm : mg "NoForm" = some (.ref (He.ga K "NoForm"))
  g_NoBack : mg "NoBack" = some (.ref (He.ga K "NoBack"))
  g_NoPair : mg "NoPair" = some (.ref (He.ga K "NoPair"))
  g_NoGain : mg "NoGain" = some (.ref (He.ga K "NoGain"))
  g_NoBox : mg "NoBox" = some (.ref (He.ga K "NoBox"))
  g_NoSteps : mg "NoSteps" = some (.ref (He.ga K "NoSteps"))
  g_NoDegree : mg "NoDegree" = some (.ref (He.ga K "NoDegree"))
  g_NoDeed : mg "NoDeed" = some (.ref (He.ga K "NoDeed"))
  g_NoName : mg "NoName" = some (.ref (He.ga K "NoName"))
  g_NoLine : mg "NoLine" = some (.ref (He.ga K "NoLine"))
  g_NoText : mg "NoText" = some (.ref (He.ga K "NoText"))
  n_ValueError : mg "ValueError" = none
  n_range : mg "range" = none
  n_max : mg "max" = none
  g_RestError : mg "RestError" = some (.ref (He.ga K "RestError"))
  n_min : mg "min" = none
end Lw
/-! what is asked of each def -/
namespace Lw
open PySem PySem.Spec PyProof.Rows L2 VL
def noText (K : PySem.W.Frag) : Value := .ref (He.ga K "NoText")
def F_shared_divisor (_ : PySem.W.Frag) : FS := fun ss Q _ => ∃ a b : Int, ss = [.val (.int a), .val (.int b)] ∧ Q (.val (.int (Int.gcd a b)))
def F_show_number (_ : PySem.W.Frag) : FS := fun ss Q _ => ∃ a b : Int, ss = [.val (.tuple [.int a, .int b])] ∧ a.natAbs < 10 ^ 300 ∧ b.natAbs < 10 ^ 300 ∧ Q (.val (.str (numT a b)))
def F_read_figures (K : PySem.W.Frag) : FS := fun ss Q E => ∃ z : Str, ss = [.val (.str z)] ∧ z.length ≤ sizeLine ∧ (match figs z with | some n => Q (.val (.int n)) | none => E (noText K))
def F_read_top (K : PySem.W.Frag) : FS := fun ss Q E => ∃ z : Str, ss = [.val (.str z)] ∧ z.length ≤ sizeLine ∧ (match readTop z with | some n => Q (.val (.int n)) | none => E (noText K))
def isS : D → Bool
  | .str _ => true
  | _ => false
def F_read_number (K : PySem.W.Frag) : FS := fun ss Q E => ∃ d : D, ss = [.val d] ∧ shortD d ∧ (match readD d with | some (a, b) => Q (.val (.tuple [.int a, .int b])) | none => E (noText K))
def F_law_low (_ : PySem.W.Frag) : FS := fun ss Q _ => ∃ a b : Int, ss = [.val (.int a), .val (.int b)] ∧ b ≠ 0 ∧ a.natAbs < 10 ^ 300 ∧ b.natAbs < 10 ^ 300 ∧ Q (.val (.tuple [.int (lowN a b).1, .int (lowN a b).2]))
def F_law_kind (_ : PySem.W.Frag) : FS := fun ss Q _ => ss = [.urn] ∧ ∀ k : Int, 0 ≤ k → k ≤ 2 → Q (.val (.int k))
def numOk (B : Nat) (a b : Int) : Prop := 0 < b ∧ Int.gcd a b = 1 ∧ a.natAbs < B ∧ b.natAbs < B
def F_law_number (_ : PySem.W.Frag) : FS := fun ss Q _ => ∃ k : Int, ss = [.urn, .val (.int k)] ∧ ∀ a b : Int, numOk (10 ^ 12) a b → Q (.val (.tuple [.int a, .int b]))
def F_law_far_number (_ : PySem.W.Frag) : FS := fun ss Q _ => ss = [.urn] ∧ ∀ a b : Int, numOk (10 ^ 30) a b → Q (.val (.tuple [.int a, .int b]))
def F_law_whole (_ : PySem.W.Frag) : FS := fun ss Q _ => ∃ d : D, ss = [.val d] ∧ Q (.val (.bool (isI d)))
def F_law_is_number (_ : PySem.W.Frag) : FS := fun ss Q _ => ∃ a b : Int, ss = [.val (.tuple [.int a, .int b])] ∧ a.natAbs < 10 ^ 300 ∧ b.natAbs < 10 ^ 300 ∧ Q (.val (.bool (decide (0 < b) && decide (Int.gcd a b = 1))))
def F_law_figures (_ : PySem.W.Frag) : FS := fun ss Q _ => ∃ z : Str, ss = [.val (.str z)] ∧ z.length ≤ sizeLine ∧ Q (.val (match figs z with | some n => .int n | none => .none))
def F_law_read_number (_ : PySem.W.Frag) : FS := fun ss Q _ => ∃ z : Str, ss = [.val (.str z)] ∧ z.length ≤ sizeLine ∧ Q (.val (match readN z with | some (a, b) => .tuple [.int a, .int b] | none => .none))
def F_law_show_number (_ : PySem.W.Frag) : FS := fun ss Q _ => ∃ a b : Int, ss = [.val (.tuple [.int a, .int b])] ∧ a.natAbs < 10 ^ 300 ∧ b.natAbs < 10 ^ 300 ∧ Q (.val (.str (numT a b)))
def F_law_spoilt (_ : PySem.W.Frag) : FS := fun ss Q _ => ∃ z : Str, ss = [.urn, .val (.str z)] ∧ z.length ≤ 100000 ∧ ∀ y : Str, y.length ≤ z.length + 2 → Q (.val (.str y))
def saidD (d : D) : D := match readD d with
  | some (a, b) => .tuple [.str "told", .tuple [.int a, .int b]]
  | none => .tuple [.str "refused", .str "text"]
/-- what the classes must tell -/
def Kf (K : PySem.W.Frag) : Prop := PySem.W.exmOne K (noText K) (.ref (He.ga K "RestError")) = some true ∧ WhichIs K (noText K) 12
def F_law_said (K : PySem.W.Frag) : FS := fun ss Q _ => Kf K ∧ ∃ d : D, ss = [.val d] ∧ shortD d ∧ Q (.val (saidD d))
def F_law_is_read (K : PySem.W.Frag) : FS := fun ss Q _ => Kf K ∧ ∃ z : Str, ss = [.val (.str z)] ∧ z.length ≤ sizeLine ∧ Q (.val (.bool true))
end Lw
namespace Lw
open PySem VL
def F_law (K : PySem.W.Frag) : FS := fun ss Q _ => Kf K ∧ ∃ ns : List Int, ss = [.scr ns] ∧ Q (.val (.bool true))
end Lw
/-! readings and their derivations: printed by gen.py -/
namespace Lw
open PySem PySem.Spec PyProof.Rows L2 VL
section
variable {P : Program} {Wd : World} {K : PySem.W.Frag} {mg : Str → Option Value} {base : Heap}
def w_shared_divisor (K : PySem.W.Frag) : WS := (wSeq (wPar 0 1 (wConsA (wB (oI1 fun i => if i < 0 then -i else i) (wConsA (wVar 0) wNil)) (wConsA (wB (oI1 fun i => if i < 0 then -i else i) (wConsA (wVar 1) wNil)) wNil)))
    (wSeq (wWhile (wTst (wBin (oCmp fun i j => decide (j < i)) (wVar 1) (wC (.int 0)))) (wPar 0 1 (wConsA (wVar 1) (wConsA (wBin (oInt (fun _ j => j ≠ 0) Int.fmod) (wVar 0) (wVar 1)) wNil))))
    (wRet (wVar 0))))
theorem b_shared_divisor (T : Tx K mg)  {f : Addr} (cdv : Value) (A : Around) (outer : List Env) (s : Shared) (H : Hp) (E : XK) (hr : Room 0 (A.deeper (envOfC "shared_divisor" (defScope s_shared_divisor) s.heap.objs.size f cdv))) :
    VSs (cxOf (L2.CX P Wd) P Wd K mg base N_shared_divisor "shared_divisor" (defScope s_shared_divisor) f cdv A outer s H E) (fun cls d _ H => E cls d H) (defBody s_shared_divisor) (w_shared_divisor K) := by
  have tk : Takes (cxOf (L2.CX P Wd) P Wd K mg base N_shared_divisor "shared_divisor" (defScope s_shared_divisor) f cdv A outer s H E) (fun cls d _ H => E cls d H) := takes_of rfl rfl rfl rfl
  have nd := sc_shared_divisor.nd
  exact (vss_cons (vs_par (i := 0) (j := 1) rfl nd rfl rfl (by decide) rfl rfl (va_cons (ve_abs (by rfl) T.n_abs (vv 0)) (va_cons (ve_abs (by rfl) T.n_abs (vv 1)) va_nil)) (by rfl))
    (vss_cons (vs_while (passes_of rfl) (vt_gt (vv 1) ve_int) (vss_one (vs_par (i := 0) (j := 1) rfl nd rfl rfl (by decide) rfl rfl (va_cons (vv 1) (va_cons (ve_mod (vv 0) (vv 1)) va_nil)) (by rfl))))
    (vss_one (vs_ret (vv 0)))))
def w_show_number (K : PySem.W.Frag) : WS := (wSeq (wIf (wTst (wBin (oEq true) (wBin oIx (wVar 0) (wC (.int 1))) (wC (.int 1)))) (wRet (wB oStr1 (wConsA (wBin oIx (wVar 0) (wC (.int 0))) wNil))) wNext)
    (wRet (wBin oAdd (wBin oAdd (wB oStr1 (wConsA (wBin oIx (wVar 0) (wC (.int 0))) wNil)) (wC (.str "/"))) (wB oStr1 (wConsA (wBin oIx (wVar 0) (wC (.int 1))) wNil)))))
theorem b_show_number (T : Tx K mg)  {f : Addr} (cdv : Value) (A : Around) (outer : List Env) (s : Shared) (H : Hp) (E : XK) (hr : Room 0 (A.deeper (envOfC "show_number" (defScope s_show_number) s.heap.objs.size f cdv))) :
    VSs (cxOf (L2.CX P Wd) P Wd K mg base N_show_number "show_number" (defScope s_show_number) f cdv A outer s H E) (fun cls d _ H => E cls d H) (defBody s_show_number) (w_show_number K) := by
  have tk : Takes (cxOf (L2.CX P Wd) P Wd K mg base N_show_number "show_number" (defScope s_show_number) f cdv A outer s H E) (fun cls d _ H => E cls d H) := takes_of rfl rfl rfl rfl
  have nd := sc_show_number.nd
  exact (vss_cons (vs_if (vt_eq hr.units (ve_ix (fun _ _ => rfl) (vv 0) ve_int) ve_int) (vss_one (vs_ret (ve_strOf (by rfl) T.n_str (ve_ix (fun _ _ => rfl) (vv 0) ve_int)))) vss_nil)
    (vss_one (vs_ret (ve_add (ve_add (ve_strOf (by rfl) T.n_str (ve_ix (fun _ _ => rfl) (vv 0) ve_int)) ve_str) (ve_strOf (by rfl) T.n_str (ve_ix (fun _ _ => rfl) (vv 0) ve_int))))))
def w_read_figures (K : PySem.W.Frag) : WS := (wSeq (wIf (wOr (wNot (wTst (wChain (oCmp fun i j => decide (i ≤ j)) (oCmp fun i j => decide (i ≤ j)) (wC (.int 1)) (wB oLen (wConsA (wVar 0) wNil)) (wC k_MOST_FIGURES)))) (wNot (wTst (wB (oAll fun bs => bs.all id) (wConsA (wLc (wiStr (wVar 0)) (gwSet 1) wYes (wBin (oInS true) (wVar 1) (wC k_FIGURES)) [1] 0) wNil))))) (wRaise (.ref (He.ga K "NoText"))) wNext)
    (wSeq (wIf (wAnd (wTst (wBin (oEq true) (wBin oIx (wVar 0) (wC (.int 0))) (wC (.str "0")))) (wTst (wBin (oCmp fun i j => decide (j < i)) (wB oLen (wConsA (wVar 0) wNil)) (wC (.int 1))))) (wRaise (.ref (He.ga K "NoText"))) wNext)
    (wRet (wB oInt1 (wConsA (wVar 0) wNil)))))
theorem b_read_figures (T : Tx K mg)  {f : Addr} (cdv : Value) (A : Around) (outer : List Env) (s : Shared) (H : Hp) (E : XK) (hr : Room 0 (A.deeper (envOfC "read_figures" (defScope s_read_figures) s.heap.objs.size f cdv))) :
    VSs (cxOf (L2.CX P Wd) P Wd K mg base N_read_figures "read_figures" (defScope s_read_figures) f cdv A outer s H E) (fun cls d _ H => E cls d H) (defBody s_read_figures) (w_read_figures K) := by
  have tk : Takes (cxOf (L2.CX P Wd) P Wd K mg base N_read_figures "read_figures" (defScope s_read_figures) f cdv A outer s H E) (fun cls d _ H => E cls d H) := takes_of rfl rfl rfl rfl
  have nd := sc_read_figures.nd
  exact (vss_cons (vs_if ((vpw_or (vt_not (vt_chain op_le op_le sim_cmp sim_cmp ve_int (ve_len (by rfl) T.n_len (vv 0)) (ve_const T.c_MOST_FIGURES (by rfl)))) (vpw_or1 (vt_not (vt_val (ve_all rfl (by rfl) T.n_all (ve_lc 0 (own := [("sign", 1)]) rfl nd (vi_str (vv 0)) (blkOk_by (own := [("sign", 1)]) (N := N_read_figures) (sc := defScope s_read_figures) (by decide +kernel)) (fun _ _ _ _ _ => (vn_name (i := 1) (by decide) nd rfl (by first | exact Or.inl rfl | exact Or.inr rfl))) (fun _ _ _ _ _ => vts_nil) (fun _ _ _ _ _ => (ve_inS (by rfl) (vv 1) (ve_const T.c_FIGURES (by rfl))))))))))).vt (vss_one (vs_raise rfl tk (pmk_of T.r_NoText (by rfl)))) vss_nil)
    (vss_cons (vs_if ((vpw_and (vt_eq hr.units (ve_ix (fun _ _ => rfl) (vv 0) ve_int) ve_str) (vpw_and1 (vt_gt (ve_len (by rfl) T.n_len (vv 0)) ve_int)))).vt (vss_one (vs_raise rfl tk (pmk_of T.r_NoText (by rfl)))) vss_nil)
    (vss_one (vs_ret (ve_intOf (by rfl) T.n_int (vv 0))))))
def w_read_top (K : PySem.W.Frag) : WS := (wSeq (wIf (wTst (wBin (oEq false) (wSl (wVar 0) wNoP (wPart (wC (.int 1)))) (wC (.str "-")))) (wRet (wCall (F_read_figures K) 1 (wConsA (wVar 0) wNil))) wNext)
    (wSeq (wSetV 1 (wCall (F_read_figures K) 1 (wConsA (wSl (wVar 0) (wPart (wC (.int 1))) wNoP) wNil)))
    (wSeq (wIf (wTst (wBin (oEq true) (wVar 1) (wC (.int 0)))) (wRaise (.ref (He.ga K "NoText"))) wNext)
    (wRet (wBin (oInt (fun _ _ => True) fun i j => i - j) (wC (.int 0)) (wVar 1))))))
theorem b_read_top (T : Tx K mg) (C_read_figures : Fc P Wd K mg base 1 "read_figures" 1 (F_read_figures K)) {f : Addr} (cdv : Value) (A : Around) (outer : List Env) (s : Shared) (H : Hp) (E : XK) (hr : Room 1 (A.deeper (envOfC "read_top" (defScope s_read_top) s.heap.objs.size f cdv))) :
    VSs (cxOf (L2.CX P Wd) P Wd K mg base N_read_top "read_top" (defScope s_read_top) f cdv A outer s H E) (fun cls d _ H => E cls d H) (defBody s_read_top) (w_read_top K) := by
  have tk : Takes (cxOf (L2.CX P Wd) P Wd K mg base N_read_top "read_top" (defScope s_read_top) f cdv A outer s H E) (fun cls d _ H => E cls d H) := takes_of rfl rfl rfl rfl
  have nd := sc_read_top.nd
  exact (vss_cons (vs_if (vt_ne hr.units (ve_slice (vv 0) vo_none (vo_some ve_int)) ve_str) (vss_one (vs_ret (ve_call C_read_figures (hr.mono (by decide)) (by rfl) tk (va_cons (vv 0) va_nil)))) vss_nil)
    (vss_cons (vs_setV (i := 1) nd rfl (by first | exact Or.inl rfl | exact Or.inr rfl) (ve_call C_read_figures (hr.mono (by decide)) (by rfl) tk (va_cons (ve_slice (vv 0) (vo_some ve_int) vo_none) va_nil)))
    (vss_cons (vs_if (vt_eq hr.units (vv 1) ve_int) (vss_one (vs_raise rfl tk (pmk_of T.r_NoText (by rfl)))) vss_nil)
    (vss_one (vs_ret (ve_sub ve_int (vv 1)))))))
def w_read_number (K : PySem.W.Frag) : WS := (wSeq (wIf (wNot (wTst (wB oIsi (wConsA (wVar 0) (wConsA (wR (.ty "str")) wNil))))) (wRaise (.ref (He.ga K "NoText"))) wNext)
    (wSeq (wAsg (wM "str" oPart (wVar 0) (wConsA (wC (.str "/")) wNil)) (gwTup 3 (gwCons (gwSet 1) (gwCons (gwSet 2) (gwCons (gwSet 3) gwNil)))))
    (wSeq (wSetV 4 (wCall (F_read_top K) 1 (wConsA (wVar 1) wNil)))
    (wSeq (wIf (wTst (wBin (oEq true) (wVar 2) (wC (.str "")))) (wRet (wTup (wConsA (wVar 4) (wConsA (wC (.int 1)) wNil)))) wNext)
    (wSeq (wSetV 5 (wCall (F_read_figures K) 1 (wConsA (wVar 3) wNil)))
    (wSeq (wIf (wOr (wTst (wBin (oCmp fun i j => decide (i < j)) (wVar 5) (wC (.int 2)))) (wTst (wBin (oEq false) (wCall (F_shared_divisor K) 2 (wConsA (wVar 4) (wConsA (wVar 5) wNil))) (wC (.int 1))))) (wRaise (.ref (He.ga K "NoText"))) wNext)
    (wRet (wTup (wConsA (wVar 4) (wConsA (wVar 5) wNil))))))))))
theorem b_read_number (T : Tx K mg) (C_read_top : Fc P Wd K mg base 2 "read_top" 1 (F_read_top K)) (C_read_figures : Fc P Wd K mg base 1 "read_figures" 1 (F_read_figures K)) (C_shared_divisor : Fc P Wd K mg base 1 "shared_divisor" 2 (F_shared_divisor K)) {f : Addr} (cdv : Value) (A : Around) (outer : List Env) (s : Shared) (H : Hp) (E : XK) (hr : Room 2 (A.deeper (envOfC "read_number" (defScope s_read_number) s.heap.objs.size f cdv))) :
    VSs (cxOf (L2.CX P Wd) P Wd K mg base N_read_number "read_number" (defScope s_read_number) f cdv A outer s H E) (fun cls d _ H => E cls d H) (defBody s_read_number) (w_read_number K) := by
  have tk : Takes (cxOf (L2.CX P Wd) P Wd K mg base N_read_number "read_number" (defScope s_read_number) f cdv A outer s H E) (fun cls d _ H => E cls d H) := takes_of rfl rfl rfl rfl
  have nd := sc_read_number.nd
  exact (vss_cons (vs_if (vt_not (vt_val (ve_isi (by rfl) T.n_isinstance (vv 0) (ve_bltnR (v := .ty "str") (by rfl) T.n_str (by decide +kernel) rfl)))) (vss_one (vs_raise rfl tk (pmk_of T.r_NoText (by rfl)))) vss_nil)
    (vss_cons (vs_asg (ve_partition (vv 0) ve_str) (vg_tup rfl (vgs_cons (vg_name (i := 1) nd rfl (by first | exact Or.inl rfl | exact Or.inr rfl)) (vgs_cons (vg_name (i := 2) nd rfl (by first | exact Or.inl rfl | exact Or.inr rfl)) (vgs_cons (vg_name (i := 3) nd rfl (by first | exact Or.inl rfl | exact Or.inr rfl)) vgs_nil)))))
    (vss_cons (vs_setV (i := 4) nd rfl (by first | exact Or.inl rfl | exact Or.inr rfl) (ve_call C_read_top (hr.mono (by decide)) (by rfl) tk (va_cons (vv 1) va_nil)))
    (vss_cons (vs_if (vt_eq hr.units (vv 2) ve_str) (vss_one (vs_ret (ve_tup (va_cons (vv 4) (va_cons ve_int va_nil))))) vss_nil)
    (vss_cons (vs_setV (i := 5) nd rfl (by first | exact Or.inl rfl | exact Or.inr rfl) (ve_call C_read_figures (hr.mono (by decide)) (by rfl) tk (va_cons (vv 3) va_nil)))
    (vss_cons (vs_if ((vpw_or (vt_lt (vv 5) ve_int) (vpw_or1 (vt_ne hr.units (ve_call C_shared_divisor (hr.mono (by decide)) (by rfl) tk (va_cons (vv 4) (va_cons (vv 5) va_nil))) ve_int)))).vt (vss_one (vs_raise rfl tk (pmk_of T.r_NoText (by rfl)))) vss_nil)
    (vss_one (vs_ret (ve_tup (va_cons (vv 4) (va_cons (vv 5) va_nil)))))))))))
def w_law_urn (K : PySem.W.Frag) : WS := (wSeq (wSetV 2 (wC (.int 0)))
    (wSeq (wIf (wTst (wBin (oCmp fun i j => decide (i < j)) (wVar 1) (wB oLen (wConsA (wVar 0) wNil)))) (wSetV 2 (wIxS (wVar 0) (wVar 1))) wNext)
    (wSeq (wSetV 3 (wBin oIx (wTup (wConsA (wC (.int 1899999979)) (wConsA (wC (.int 1899998977)) (wConsA (wC (.int 1899997949)) (wConsA (wC (.int 1899996929)) (wConsA (wC (.int 1899995927)) (wConsA (wC (.int 1899994903)) (wConsA (wC (.int 1899993877)) (wConsA (wC (.int 1899992839)) wNil))))))))) (wBin (oInt (fun _ j => j ≠ 0) Int.fmod) (wVar 1) (wC (.int 8)))))
    (wSeq (wSetV 4 (wC (.int 0)))
    (wSeq (wIf (wTst (wBin (oCmp fun i j => decide (j ≤ i)) (wB (oI1 fun i => if i < 0 then -i else i) (wConsA (wVar 2) wNil)) (wBin (oInt CPow fun i j => i ^ j.toNat) (wC (.int 10)) (wC (.int 18))))) (wSetV 4 (wB (oI1 fun i => if i < 0 then -i else i) (wConsA (wVar 2) wNil))) wNext)
    (wRet (wLst (wConsA (wVar 4) (wConsA (wBin (oInt (fun _ j => j ≠ 0) Int.fmod) (wBin (oInt CPow fun i j => i ^ j.toNat) (wBin oAdd (wBin oAdd (wBin (oInt (fun _ j => j ≠ 0) Int.fmod) (wVar 2) (wVar 3)) (wBin oMul (wC (.int 65537)) (wVar 1))) (wC (.int 101))) (wC (.int 3))) (wVar 3)) (wConsA (wVar 3) wNil))))))))))
theorem b_law_urn (T : Tx K mg)  {f : Addr} (cdv : Value) (A : Around) (outer : List Env) (s : Shared) (H : Hp) (E : XK) (hr : Room 0 (A.deeper (envOfC "_law_urn" (defScope s_law_urn) s.heap.objs.size f cdv))) :
    VSs (cxOf (L2.CX P Wd) P Wd K mg base N_law_urn "_law_urn" (defScope s_law_urn) f cdv A outer s H E) (fun cls d _ H => E cls d H) (defBody s_law_urn) (w_law_urn K) := by
  have tk : Takes (cxOf (L2.CX P Wd) P Wd K mg base N_law_urn "_law_urn" (defScope s_law_urn) f cdv A outer s H E) (fun cls d _ H => E cls d H) := takes_of rfl rfl rfl rfl
  have nd := sc_law_urn.nd
  exact (vss_cons (vs_setV (i := 2) nd rfl (by first | exact Or.inl rfl | exact Or.inr rfl) ve_int)
    (vss_cons (vs_if (vt_lt (vv 1) (ve_len (by rfl) T.n_len (vv 0))) (vss_one (vs_setV (i := 2) nd rfl (by first | exact Or.inl rfl | exact Or.inr rfl) (ve_ixScr (fun _ _ => rfl) (vv 0) (vv 1)))) vss_nil)
    (vss_cons (vs_setV (i := 3) nd rfl (by first | exact Or.inl rfl | exact Or.inr rfl) (ve_ix (fun _ _ => rfl) (ve_tup (va_cons ve_int (va_cons ve_int (va_cons ve_int (va_cons ve_int (va_cons ve_int (va_cons ve_int (va_cons ve_int (va_cons ve_int va_nil))))))))) (ve_mod (vv 1) ve_int)))
    (vss_cons (vs_setV (i := 4) nd rfl (by first | exact Or.inl rfl | exact Or.inr rfl) ve_int)
    (vss_cons (vs_if (vt_ge (ve_abs (by rfl) T.n_abs (vv 2)) (ve_pow ve_int ve_int)) (vss_one (vs_setV (i := 4) nd rfl (by first | exact Or.inl rfl | exact Or.inr rfl) (ve_abs (by rfl) T.n_abs (vv 2)))) vss_nil)
    (vss_one (vs_ret (ve_lst (va_cons (vv 4) (va_cons (ve_mod (ve_pow (ve_add (ve_add (ve_mod (vv 2) (vv 3)) (ve_mul ve_int (vv 1))) ve_int) ve_int) (vv 3)) (va_cons (vv 3) va_nil)))))))))))
def w_law_low (K : PySem.W.Frag) : WS := (wSeq (wSetV 2 (wB (oI1 fun i => if i < 0 then -i else i) (wConsA (wVar 0) wNil)))
    (wSeq (wSetV 3 (wB (oI1 fun i => if i < 0 then -i else i) (wConsA (wVar 1) wNil)))
    (wSeq (wWhile (wTst (wBin (oCmp fun i j => decide (j < i)) (wVar 3) (wC (.int 0)))) (wPar 2 3 (wConsA (wVar 3) (wConsA (wBin (oInt (fun _ j => j ≠ 0) Int.fmod) (wVar 2) (wVar 3)) wNil))))
    (wSeq (wIf (wTst (wBin (oCmp fun i j => decide (i < j)) (wVar 1) (wC (.int 0)))) (wSetV 2 (wBin (oInt (fun _ _ => True) fun i j => i - j) (wC (.int 0)) (wVar 2))) wNext)
    (wRet (wTup (wConsA (wBin (oInt fdivOk Int.fdiv) (wVar 0) (wVar 2)) (wConsA (wBin (oInt fdivOk Int.fdiv) (wVar 1) (wVar 2)) wNil))))))))
theorem b_law_low (T : Tx K mg)  {f : Addr} (cdv : Value) (A : Around) (outer : List Env) (s : Shared) (H : Hp) (E : XK) (hr : Room 0 (A.deeper (envOfC "_law_low" (defScope s_law_low) s.heap.objs.size f cdv))) :
    VSs (cxOf (L2.CX P Wd) P Wd K mg base N_law_low "_law_low" (defScope s_law_low) f cdv A outer s H E) (fun cls d _ H => E cls d H) (defBody s_law_low) (w_law_low K) := by
  have tk : Takes (cxOf (L2.CX P Wd) P Wd K mg base N_law_low "_law_low" (defScope s_law_low) f cdv A outer s H E) (fun cls d _ H => E cls d H) := takes_of rfl rfl rfl rfl
  have nd := sc_law_low.nd
  exact (vss_cons (vs_setV (i := 2) nd rfl (by first | exact Or.inl rfl | exact Or.inr rfl) (ve_abs (by rfl) T.n_abs (vv 0)))
    (vss_cons (vs_setV (i := 3) nd rfl (by first | exact Or.inl rfl | exact Or.inr rfl) (ve_abs (by rfl) T.n_abs (vv 1)))
    (vss_cons (vs_while (passes_of rfl) (vt_gt (vv 3) ve_int) (vss_one (vs_par (i := 2) (j := 3) rfl nd rfl rfl (by decide) rfl rfl (va_cons (vv 3) (va_cons (ve_mod (vv 2) (vv 3)) va_nil)) (by rfl))))
    (vss_cons (vs_if (vt_lt (vv 1) ve_int) (vss_one (vs_setV (i := 2) nd rfl (by first | exact Or.inl rfl | exact Or.inr rfl) (ve_sub ve_int (vv 2)))) vss_nil)
    (vss_one (vs_ret (ve_tup (va_cons (ve_fdiv (vv 0) (vv 2)) (va_cons (ve_fdiv (vv 1) (vv 2)) va_nil)))))))))
def w_law_kind (K : PySem.W.Frag) : WS := (wRet (wBin oIx (wLst (wConsA (wC (.int 0)) (wConsA (wC (.int 1)) (wConsA (wC (.int 0)) (wConsA (wC (.int 1)) (wConsA (wC (.int 0)) (wConsA (wC (.int 1)) (wConsA (wC (.int 0)) (wConsA (wC (.int 2)) wNil))))))))) (wCall (F_law_draw K) 2 (wConsA (wVar 0) (wConsA (wC (.int 8)) wNil)))))
theorem b_law_kind (T : Tx K mg) (C_law_draw : Fc P Wd K mg base 1 "_law_draw" 2 (F_law_draw K)) {f : Addr} (cdv : Value) (A : Around) (outer : List Env) (s : Shared) (H : Hp) (E : XK) (hr : Room 1 (A.deeper (envOfC "_law_kind" (defScope s_law_kind) s.heap.objs.size f cdv))) :
    VSs (cxOf (L2.CX P Wd) P Wd K mg base N_law_kind "_law_kind" (defScope s_law_kind) f cdv A outer s H E) (fun cls d _ H => E cls d H) (defBody s_law_kind) (w_law_kind K) := by
  have tk : Takes (cxOf (L2.CX P Wd) P Wd K mg base N_law_kind "_law_kind" (defScope s_law_kind) f cdv A outer s H E) (fun cls d _ H => E cls d H) := takes_of rfl rfl rfl rfl
  have nd := sc_law_kind.nd
  exact (vss_one (vs_ret (ve_ix (fun _ _ => rfl) (ve_lst (va_cons ve_int (va_cons ve_int (va_cons ve_int (va_cons ve_int (va_cons ve_int (va_cons ve_int (va_cons ve_int (va_cons ve_int va_nil))))))))) (ve_call C_law_draw (hr.mono (by decide)) (by rfl) tk (va_cons (vv 0) (va_cons ve_int va_nil))))))
def w_law_number (K : PySem.W.Frag) : WS := (wSeq (wIf (wTst (wBin (oEq true) (wVar 1) (wC (.int 2)))) (wSeq (wSetV 2 (wBin oAdd (wBin oMul (wCall (F_law_draw K) 2 (wConsA (wVar 0) (wConsA (wBin (oInt CPow fun i j => i ^ j.toNat) (wC (.int 10)) (wC (.int 6))) wNil))) (wBin (oInt CPow fun i j => i ^ j.toNat) (wC (.int 10)) (wC (.int 6)))) (wCall (F_law_draw K) 2 (wConsA (wVar 0) (wConsA (wBin (oInt CPow fun i j => i ^ j.toNat) (wC (.int 10)) (wC (.int 6))) wNil)))))
      (wRet (wCall (F_law_low K) 2 (wConsA (wBin oMul (wVar 2) (wBin oIx (wLst (wConsA (wC (.int 1)) (wConsA (wNeg (wC (.int 1))) wNil))) (wCall (F_law_draw K) 2 (wConsA (wVar 0) (wConsA (wC (.int 2)) wNil))))) (wConsA (wBin oAdd (wC (.int 1)) (wBin oMul (wCall (F_law_draw K) 2 (wConsA (wVar 0) (wConsA (wBin (oInt CPow fun i j => i ^ j.toNat) (wC (.int 10)) (wC (.int 6))) wNil))) (wBin (oInt CPow fun i j => i ^ j.toNat) (wC (.int 10)) (wC (.int 6))))) wNil))))) wNext)
    (wRet (wCall (F_law_low K) 2 (wConsA (wBin (oInt (fun _ _ => True) fun i j => i - j) (wCall (F_law_draw K) 2 (wConsA (wVar 0) (wConsA (wC (.int 19)) wNil))) (wC (.int 9))) (wConsA (wBin oAdd (wC (.int 1)) (wBin oMul (wCall (F_law_draw K) 2 (wConsA (wVar 0) (wConsA (wC (.int 6)) wNil))) (wB oInt1 (wConsA (wBin (oEq true) (wVar 1) (wC (.int 0))) wNil)))) wNil)))))
theorem b_law_number (T : Tx K mg) (C_law_draw : Fc P Wd K mg base 1 "_law_draw" 2 (F_law_draw K)) (C_law_low : Fc P Wd K mg base 1 "_law_low" 2 (F_law_low K)) {f : Addr} (cdv : Value) (A : Around) (outer : List Env) (s : Shared) (H : Hp) (E : XK) (hr : Room 1 (A.deeper (envOfC "_law_number" (defScope s_law_number) s.heap.objs.size f cdv))) :
    VSs (cxOf (L2.CX P Wd) P Wd K mg base N_law_number "_law_number" (defScope s_law_number) f cdv A outer s H E) (fun cls d _ H => E cls d H) (defBody s_law_number) (w_law_number K) := by
  have tk : Takes (cxOf (L2.CX P Wd) P Wd K mg base N_law_number "_law_number" (defScope s_law_number) f cdv A outer s H E) (fun cls d _ H => E cls d H) := takes_of rfl rfl rfl rfl
  have nd := sc_law_number.nd
  exact (vss_cons (vs_if (vt_eq hr.units (vv 1) ve_int) (vss_cons (vs_setV (i := 2) nd rfl (by first | exact Or.inl rfl | exact Or.inr rfl) (ve_add (ve_mul (ve_call C_law_draw (hr.mono (by decide)) (by rfl) tk (va_cons (vv 0) (va_cons (ve_pow ve_int ve_int) va_nil))) (ve_pow ve_int ve_int)) (ve_call C_law_draw (hr.mono (by decide)) (by rfl) tk (va_cons (vv 0) (va_cons (ve_pow ve_int ve_int) va_nil)))))
      (vss_one (vs_ret (ve_call C_law_low (hr.mono (by decide)) (by rfl) tk (va_cons (ve_mul (vv 2) (ve_ix (fun _ _ => rfl) (ve_lst (va_cons ve_int (va_cons (ve_neg ve_int) va_nil))) (ve_call C_law_draw (hr.mono (by decide)) (by rfl) tk (va_cons (vv 0) (va_cons ve_int va_nil))))) (va_cons (ve_add ve_int (ve_mul (ve_call C_law_draw (hr.mono (by decide)) (by rfl) tk (va_cons (vv 0) (va_cons (ve_pow ve_int ve_int) va_nil))) (ve_pow ve_int ve_int))) va_nil)))))) vss_nil)
    (vss_one (vs_ret (ve_call C_law_low (hr.mono (by decide)) (by rfl) tk (va_cons (ve_sub (ve_call C_law_draw (hr.mono (by decide)) (by rfl) tk (va_cons (vv 0) (va_cons ve_int va_nil))) ve_int) (va_cons (ve_add ve_int (ve_mul (ve_call C_law_draw (hr.mono (by decide)) (by rfl) tk (va_cons (vv 0) (va_cons ve_int va_nil))) (ve_intOf (by rfl) T.n_int (ve_eq hr.units (vv 1) ve_int)))) va_nil))))))
def w_law_whole (K : PySem.W.Frag) : WS := (wRet (wAndV (wB oIsi (wConsA (wVar 0) (wConsA (wR (.ty "int")) wNil))) (wNotV (wB oIsi (wConsA (wVar 0) (wConsA (wR (.ty "bool")) wNil))))))
theorem b_law_whole (T : Tx K mg)  {f : Addr} (cdv : Value) (A : Around) (outer : List Env) (s : Shared) (H : Hp) (E : XK) (hr : Room 0 (A.deeper (envOfC "_law_whole" (defScope s_law_whole) s.heap.objs.size f cdv))) :
    VSs (cxOf (L2.CX P Wd) P Wd K mg base N_law_whole "_law_whole" (defScope s_law_whole) f cdv A outer s H E) (fun cls d _ H => E cls d H) (defBody s_law_whole) (w_law_whole K) := by
  have tk : Takes (cxOf (L2.CX P Wd) P Wd K mg base N_law_whole "_law_whole" (defScope s_law_whole) f cdv A outer s H E) (fun cls d _ H => E cls d H) := takes_of rfl rfl rfl rfl
  have nd := sc_law_whole.nd
  exact (vss_one (vs_ret (ve_and (ve_isi (by rfl) T.n_isinstance (vv 0) (ve_bltnR (v := .ty "int") (by rfl) T.n_int (by decide +kernel) rfl)) (ve_one (ve_not (ve_isi (by rfl) T.n_isinstance (vv 0) (ve_bltnR (v := .ty "bool") (by rfl) T.n_bool (by decide +kernel) rfl)))))))
def w_law_is_number (K : PySem.W.Frag) : WS := (wSeq (wIf (wOr (wNot (wTst (wB oIsi (wConsA (wVar 0) (wConsA (wR (.ty "tuple")) wNil))))) (wOr (wTst (wBin (oEq false) (wB oLen (wConsA (wVar 0) wNil)) (wC (.int 2)))) (wOr (wNot (wTst (wCall (F_law_whole K) 1 (wConsA (wBin oIx (wVar 0) (wC (.int 0))) wNil)))) (wNot (wTst (wCall (F_law_whole K) 1 (wConsA (wBin oIx (wVar 0) (wC (.int 1))) wNil))))))) (wRet (wC (.bool false))) wNext)
    (wRet (wAndV (wBin (oCmp fun i j => decide (j < i)) (wBin oIx (wVar 0) (wC (.int 1))) (wC (.int 0))) (wBin (oEq true) (wCall (F_law_low K) 2 (wConsA (wBin oIx (wVar 0) (wC (.int 0))) (wConsA (wBin oIx (wVar 0) (wC (.int 1))) wNil))) (wVar 0)))))
theorem b_law_is_number (T : Tx K mg) (C_law_whole : Fc P Wd K mg base 1 "_law_whole" 1 (F_law_whole K)) (C_law_low : Fc P Wd K mg base 1 "_law_low" 2 (F_law_low K)) {f : Addr} (cdv : Value) (A : Around) (outer : List Env) (s : Shared) (H : Hp) (E : XK) (hr : Room 1 (A.deeper (envOfC "_law_is_number" (defScope s_law_is_number) s.heap.objs.size f cdv))) :
    VSs (cxOf (L2.CX P Wd) P Wd K mg base N_law_is_number "_law_is_number" (defScope s_law_is_number) f cdv A outer s H E) (fun cls d _ H => E cls d H) (defBody s_law_is_number) (w_law_is_number K) := by
  have tk : Takes (cxOf (L2.CX P Wd) P Wd K mg base N_law_is_number "_law_is_number" (defScope s_law_is_number) f cdv A outer s H E) (fun cls d _ H => E cls d H) := takes_of rfl rfl rfl rfl
  have nd := sc_law_is_number.nd
  exact (vss_cons (vs_if ((vpw_or (vt_not (vt_val (ve_isi (by rfl) T.n_isinstance (vv 0) (ve_bltnR (v := .ty "tuple") (by rfl) T.n_tuple (by decide +kernel) rfl)))) (vpw_or (vt_ne hr.units (ve_len (by rfl) T.n_len (vv 0)) ve_int) (vpw_or (vt_not (vt_val (ve_call C_law_whole (hr.mono (by decide)) (by rfl) tk (va_cons (ve_ix (fun _ _ => rfl) (vv 0) ve_int) va_nil)))) (vpw_or1 (vt_not (vt_val (ve_call C_law_whole (hr.mono (by decide)) (by rfl) tk (va_cons (ve_ix (fun _ _ => rfl) (vv 0) ve_int) va_nil))))))))).vt (vss_one (vs_ret ve_bl)) vss_nil)
    (vss_one (vs_ret (ve_and (ve_gt (ve_ix (fun _ _ => rfl) (vv 0) ve_int) ve_int) (ve_one (ve_eq hr.units (ve_call C_law_low (hr.mono (by decide)) (by rfl) tk (va_cons (ve_ix (fun _ _ => rfl) (vv 0) ve_int) (va_cons (ve_ix (fun _ _ => rfl) (vv 0) ve_int) va_nil))) (vv 0)))))))
def w_law_which (K : PySem.W.Frag) (c : Value) (a : Addr) : WS := (wSeq (wSetV 1 (wLst (wConsA (wB (oIsP K c a) (wConsA (wVar 0) (wConsA (wR (.ref (He.ga K "NoFraction"))) wNil))) (wConsA (wB (oIsP K c a) (wConsA (wVar 0) (wConsA (wR (.ref (He.ga K "NoPolynomial"))) wNil))) (wConsA (wB (oIsP K c a) (wConsA (wVar 0) (wConsA (wR (.ref (He.ga K "NoStretch"))) wNil))) (wConsA (wB (oIsP K c a) (wConsA (wVar 0) (wConsA (wR (.ref (He.ga K "NoRow"))) wNil))) wNil))))))
    (wSeq (wSetV 1 (wBin oAdd (wVar 1) (wLst (wConsA (wB (oIsP K c a) (wConsA (wVar 0) (wConsA (wR (.ref (He.ga K "NoPair"))) wNil))) (wConsA (wB (oIsP K c a) (wConsA (wVar 0) (wConsA (wR (.ref (He.ga K "NoBack"))) wNil))) (wConsA (wB (oIsP K c a) (wConsA (wVar 0) (wConsA (wR (.ref (He.ga K "NoForm"))) wNil))) (wConsA (wB (oIsP K c a) (wConsA (wVar 0) (wConsA (wR (.ref (He.ga K "NoParts"))) wNil))) wNil)))))))
    (wSeq (wSetV 1 (wBin oAdd (wVar 1) (wLst (wConsA (wB (oIsP K c a) (wConsA (wVar 0) (wConsA (wR (.ref (He.ga K "NoDegree"))) wNil))) (wConsA (wB (oIsP K c a) (wConsA (wVar 0) (wConsA (wR (.ref (He.ga K "NoSteps"))) wNil))) (wConsA (wB (oIsP K c a) (wConsA (wVar 0) (wConsA (wR (.ref (He.ga K "NoBox"))) wNil))) (wConsA (wB (oIsP K c a) (wConsA (wVar 0) (wConsA (wR (.ref (He.ga K "NoGain"))) wNil))) wNil)))))))
    (wSeq (wSetV 1 (wBin oAdd (wVar 1) (wLst (wConsA (wB (oIsP K c a) (wConsA (wVar 0) (wConsA (wR (.ref (He.ga K "NoText"))) wNil))) (wConsA (wB (oIsP K c a) (wConsA (wVar 0) (wConsA (wR (.ref (He.ga K "NoLine"))) wNil))) (wConsA (wB (oIsP K c a) (wConsA (wVar 0) (wConsA (wR (.ref (He.ga K "NoName"))) wNil))) (wConsA (wB (oIsP K c a) (wConsA (wVar 0) (wConsA (wR (.ref (He.ga K "NoDeed"))) wNil))) wNil)))))))
    (wSeq (wSetV 2 (wC (.str "fraction polynomial stretch row pair back form parts degree steps box gain text line name deed")))
    (wSeq (wIf (wOr (wTst (wBin (oEq false) (wM "list" oCount (wVar 1) (wConsA (wC (.bool true)) wNil)) (wC (.int 1)))) (wNot (wTst (wB (oIsP K c a) (wConsA (wVar 0) (wConsA (wR (.ty "ValueError")) wNil)))))) (wRet (wC (.str "other"))) wNext)
    (wRet (wBin oIx (wM "str" oSplit (wVar 2) (wConsA (wC (.str " ")) wNil)) (wM "list" oIndex (wVar 1) (wConsA (wC (.bool true)) wNil))))))))))
theorem b_law_which (T : Tx K mg) {f D : Addr} {p : Addr × Obj} (cdv : Value) (A : Around) (outer : List Env) (s : Shared) (H : Hp) (E : XK) (ec : ExcC K D) (hz : L2.Zc (.ref D) none p.2) (hf : ∃ xs, p.2.data = .fields xs) (hr : L2H.RoomH 0 (A.deeper (envOfC "_law_which" (defScope s_law_which) s.heap.objs.size f cdv))) :
    VSs (L2H.cxH (L2.CX P Wd) P Wd K mg base N_law_which "_law_which" (defScope s_law_which) f cdv A outer s H E p) W0 (defBody s_law_which) (w_law_which K (.ref D) p.1) := by
  have nd := sc_law_which.nd
  exact (vss_cons (vs_setV (i := 1) nd rfl (by first | exact Or.inl rfl | exact Or.inr rfl) (ve_lst (va_cons (ve_isP ec hz hf (List.mem_cons_self) (by rfl) T.n_isinstance (vv 0) (ve_globR (v := .ref (He.ga K "NoFraction")) (by rfl) T.g_NoFraction rfl)) (va_cons (ve_isP ec hz hf (List.mem_cons_self) (by rfl) T.n_isinstance (vv 0) (ve_globR (v := .ref (He.ga K "NoPolynomial")) (by rfl) T.g_NoPolynomial rfl)) (va_cons (ve_isP ec hz hf (List.mem_cons_self) (by rfl) T.n_isinstance (vv 0) (ve_globR (v := .ref (He.ga K "NoStretch")) (by rfl) T.g_NoStretch rfl)) (va_cons (ve_isP ec hz hf (List.mem_cons_self) (by rfl) T.n_isinstance (vv 0) (ve_globR (v := .ref (He.ga K "NoRow")) (by rfl) T.g_NoRow rfl)) va_nil))))))
    (vss_cons (vs_setV (i := 1) nd rfl (by first | exact Or.inl rfl | exact Or.inr rfl) (ve_add (vv 1) (ve_lst (va_cons (ve_isP ec hz hf (List.mem_cons_self) (by rfl) T.n_isinstance (vv 0) (ve_globR (v := .ref (He.ga K "NoPair")) (by rfl) T.g_NoPair rfl)) (va_cons (ve_isP ec hz hf (List.mem_cons_self) (by rfl) T.n_isinstance (vv 0) (ve_globR (v := .ref (He.ga K "NoBack")) (by rfl) T.g_NoBack rfl)) (va_cons (ve_isP ec hz hf (List.mem_cons_self) (by rfl) T.n_isinstance (vv 0) (ve_globR (v := .ref (He.ga K "NoForm")) (by rfl) T.g_NoForm rfl)) (va_cons (ve_isP ec hz hf (List.mem_cons_self) (by rfl) T.n_isinstance (vv 0) (ve_globR (v := .ref (He.ga K "NoParts")) (by rfl) T.g_NoParts rfl)) va_nil)))))))
    (vss_cons (vs_setV (i := 1) nd rfl (by first | exact Or.inl rfl | exact Or.inr rfl) (ve_add (vv 1) (ve_lst (va_cons (ve_isP ec hz hf (List.mem_cons_self) (by rfl) T.n_isinstance (vv 0) (ve_globR (v := .ref (He.ga K "NoDegree")) (by rfl) T.g_NoDegree rfl)) (va_cons (ve_isP ec hz hf (List.mem_cons_self) (by rfl) T.n_isinstance (vv 0) (ve_globR (v := .ref (He.ga K "NoSteps")) (by rfl) T.g_NoSteps rfl)) (va_cons (ve_isP ec hz hf (List.mem_cons_self) (by rfl) T.n_isinstance (vv 0) (ve_globR (v := .ref (He.ga K "NoBox")) (by rfl) T.g_NoBox rfl)) (va_cons (ve_isP ec hz hf (List.mem_cons_self) (by rfl) T.n_isinstance (vv 0) (ve_globR (v := .ref (He.ga K "NoGain")) (by rfl) T.g_NoGain rfl)) va_nil)))))))
    (vss_cons (vs_setV (i := 1) nd rfl (by first | exact Or.inl rfl | exact Or.inr rfl) (ve_add (vv 1) (ve_lst (va_cons (ve_isP ec hz hf (List.mem_cons_self) (by rfl) T.n_isinstance (vv 0) (ve_globR (v := .ref (He.ga K "NoText")) (by rfl) T.g_NoText rfl)) (va_cons (ve_isP ec hz hf (List.mem_cons_self) (by rfl) T.n_isinstance (vv 0) (ve_globR (v := .ref (He.ga K "NoLine")) (by rfl) T.g_NoLine rfl)) (va_cons (ve_isP ec hz hf (List.mem_cons_self) (by rfl) T.n_isinstance (vv 0) (ve_globR (v := .ref (He.ga K "NoName")) (by rfl) T.g_NoName rfl)) (va_cons (ve_isP ec hz hf (List.mem_cons_self) (by rfl) T.n_isinstance (vv 0) (ve_globR (v := .ref (He.ga K "NoDeed")) (by rfl) T.g_NoDeed rfl)) va_nil)))))))
    (vss_cons (vs_setV (i := 2) nd rfl (by first | exact Or.inl rfl | exact Or.inr rfl) ve_str)
    (vss_cons (vs_if ((vpw_or (vt_ne (L2H_units hr) (ve_count (vv 1) ve_bl) ve_int) (vpw_or1 (vt_not (vt_val (ve_isP ec hz hf (List.mem_cons_self) (by rfl) T.n_isinstance (vv 0) (ve_bltnR (v := .ty "ValueError") (by rfl) T.n_ValueError (by decide +kernel) rfl))))))).vt (vss_one (vs_ret ve_str)) vss_nil)
    (vss_one (vs_ret (ve_ix (fun _ _ => rfl) (ve_split (vv 2) ve_str) (ve_index (vv 1) ve_bl))))))))))
def w_law_figures (K : PySem.W.Frag) : WS := (wSeq (wIf (wOr (wTst (wBin (oEq true) (wVar 0) (wC (.str "")))) (wOr (wTst (wBin (oCmp fun i j => decide (j < i)) (wB oLen (wConsA (wVar 0) wNil)) (wC (.int 30)))) (wNot (wTst (wB (oAll fun bs => bs.all id) (wConsA (wLc (wiStr (wVar 0)) (gwSet 1) wYes (wBin (oInS true) (wVar 1) (wC (.str "0123456789"))) [1] 0) wNil)))))) (wRet (wC .none)) wNext)
    (wSeq (wIf (wAnd (wTst (wBin (oEq true) (wBin oIx (wVar 0) (wC (.int 0))) (wC (.str "0")))) (wTst (wBin (oEq false) (wVar 0) (wC (.str "0"))))) (wRet (wC .none)) wNext)
    (wSeq (wSetV 2 (wC (.int 0)))
    (wSeq (wFor (wiStr (wVar 0)) (gwSet 1) (wSetV 2 (wBin oAdd (wBin oMul (wVar 2) (wC (.int 10))) (wM "str" oIndexS (wC (.str "0123456789")) (wConsA (wVar 1) wNil)))))
    (wRet (wVar 2))))))
theorem b_law_figures (T : Tx K mg)  {f : Addr} (cdv : Value) (A : Around) (outer : List Env) (s : Shared) (H : Hp) (E : XK) (hr : Room 0 (A.deeper (envOfC "_law_figures" (defScope s_law_figures) s.heap.objs.size f cdv))) :
    VSs (cxOf (L2.CX P Wd) P Wd K mg base N_law_figures "_law_figures" (defScope s_law_figures) f cdv A outer s H E) (fun cls d _ H => E cls d H) (defBody s_law_figures) (w_law_figures K) := by
  have tk : Takes (cxOf (L2.CX P Wd) P Wd K mg base N_law_figures "_law_figures" (defScope s_law_figures) f cdv A outer s H E) (fun cls d _ H => E cls d H) := takes_of rfl rfl rfl rfl
  have nd := sc_law_figures.nd
  exact (vss_cons (vs_if ((vpw_or (vt_eq hr.units (vv 0) ve_str) (vpw_or (vt_gt (ve_len (by rfl) T.n_len (vv 0)) ve_int) (vpw_or1 (vt_not (vt_val (ve_all rfl (by rfl) T.n_all (ve_lc 0 (own := [("_law_sign", 1)]) rfl nd (vi_str (vv 0)) (blkOk_by (own := [("_law_sign", 1)]) (N := N_law_figures) (sc := defScope s_law_figures) (by decide +kernel)) (fun _ _ _ _ _ => (vn_name (i := 1) (by decide) nd rfl (by first | exact Or.inl rfl | exact Or.inr rfl))) (fun _ _ _ _ _ => vts_nil) (fun _ _ _ _ _ => (ve_inS (by rfl) (vv 1) ve_str)))))))))).vt (vss_one (vs_ret ve_non)) vss_nil)
    (vss_cons (vs_if ((vpw_and (vt_eq hr.units (ve_ix (fun _ _ => rfl) (vv 0) ve_int) ve_str) (vpw_and1 (vt_ne hr.units (vv 0) ve_str)))).vt (vss_one (vs_ret ve_non)) vss_nil)
    (vss_cons (vs_setV (i := 2) nd rfl (by first | exact Or.inl rfl | exact Or.inr rfl) ve_int)
    (vss_cons (vs_for (passes_of rfl) rfl (vi_str (vv 0)) (VN.vg (vs := [1]) (vn_name (i := 1) (by decide) nd rfl (by first | exact Or.inl rfl | exact Or.inr rfl))) (vss_one (vs_setV (i := 2) nd rfl (by first | exact Or.inl rfl | exact Or.inr rfl) (ve_add (ve_mul (vv 2) ve_int) (ve_indexS ve_str (vv 1))))))
    (vss_one (vs_ret (vv 2)))))))
def w_law_read_number (K : PySem.W.Frag) : WS := (wSeq (wAsg (wM "str" oPart (wVar 0) (wConsA (wC (.str "/")) wNil)) (gwTup 3 (gwCons (gwSet 1) (gwCons (gwSet 2) (gwCons (gwSet 3) gwNil)))))
    (wSeq (wSetV 4 (wBin (oEq true) (wSl (wVar 1) wNoP (wPart (wC (.int 1)))) (wC (.str "-"))))
    (wSeq (wSetV 5 (wCall (F_law_figures K) 1 (wConsA (wSl (wVar 1) (wPart (wB oInt1 (wConsA (wVar 4) wNil))) wNoP) wNil)))
    (wSeq (wSetV 6 (wC (.int 1)))
    (wSeq (wIf (wTst (wBin (oEq false) (wVar 2) (wC (.str "")))) (wSetV 6 (wCall (F_law_figures K) 1 (wConsA (wVar 3) wNil))) wNext)
    (wSeq (wIf (wOr (wTst (wBin (oIsN true) (wVar 5) (wC .none))) (wOr (wTst (wBin (oIsN true) (wVar 6) (wC .none))) (wOr (wTst (wBin (oEq true) (wVar 6) (wC (.int 0)))) (wOr (wAnd (wTst (wVar 4)) (wTst (wBin (oEq true) (wVar 5) (wC (.int 0))))) (wAnd (wTst (wBin (oEq false) (wVar 2) (wC (.str "")))) (wTst (wBin (oEq true) (wVar 6) (wC (.int 1))))))))) (wRet (wC .none)) wNext)
    (wSeq (wSetV 7 (wTup (wConsA (wBin oMul (wVar 5) (wBin oIx (wLst (wConsA (wC (.int 1)) (wConsA (wNeg (wC (.int 1))) wNil))) (wB oInt1 (wConsA (wVar 4) wNil)))) (wConsA (wVar 6) wNil))))
    (wRet (wIfE (wTst (wBin (oEq true) (wCall (F_law_low K) 2 (wConsA (wBin oIx (wVar 7) (wC (.int 0))) (wConsA (wVar 6) wNil))) (wVar 7))) (wVar 7) (wC .none))))))))))
theorem b_law_read_number (T : Tx K mg) (C_law_figures : Fc P Wd K mg base 1 "_law_figures" 1 (F_law_figures K)) (C_law_low : Fc P Wd K mg base 1 "_law_low" 2 (F_law_low K)) {f : Addr} (cdv : Value) (A : Around) (outer : List Env) (s : Shared) (H : Hp) (E : XK) (hr : Room 1 (A.deeper (envOfC "_law_read_number" (defScope s_law_read_number) s.heap.objs.size f cdv))) :
    VSs (cxOf (L2.CX P Wd) P Wd K mg base N_law_read_number "_law_read_number" (defScope s_law_read_number) f cdv A outer s H E) (fun cls d _ H => E cls d H) (defBody s_law_read_number) (w_law_read_number K) := by
  have tk : Takes (cxOf (L2.CX P Wd) P Wd K mg base N_law_read_number "_law_read_number" (defScope s_law_read_number) f cdv A outer s H E) (fun cls d _ H => E cls d H) := takes_of rfl rfl rfl rfl
  have nd := sc_law_read_number.nd
  exact (vss_cons (vs_asg (ve_partition (vv 0) ve_str) (vg_tup rfl (vgs_cons (vg_name (i := 1) nd rfl (by first | exact Or.inl rfl | exact Or.inr rfl)) (vgs_cons (vg_name (i := 2) nd rfl (by first | exact Or.inl rfl | exact Or.inr rfl)) (vgs_cons (vg_name (i := 3) nd rfl (by first | exact Or.inl rfl | exact Or.inr rfl)) vgs_nil)))))
    (vss_cons (vs_setV (i := 4) nd rfl (by first | exact Or.inl rfl | exact Or.inr rfl) (ve_eq hr.units (ve_slice (vv 1) vo_none (vo_some ve_int)) ve_str))
    (vss_cons (vs_setV (i := 5) nd rfl (by first | exact Or.inl rfl | exact Or.inr rfl) (ve_call C_law_figures (hr.mono (by decide)) (by rfl) tk (va_cons (ve_slice (vv 1) (vo_some (ve_intOf (by rfl) T.n_int (vv 4))) vo_none) va_nil)))
    (vss_cons (vs_setV (i := 6) nd rfl (by first | exact Or.inl rfl | exact Or.inr rfl) ve_int)
    (vss_cons (vs_if (vt_ne hr.units (vv 2) ve_str) (vss_one (vs_setV (i := 6) nd rfl (by first | exact Or.inl rfl | exact Or.inr rfl) (ve_call C_law_figures (hr.mono (by decide)) (by rfl) tk (va_cons (vv 3) va_nil)))) vss_nil)
    (vss_cons (vs_if ((vpw_or (vt_isN (vv 5) ve_non) (vpw_or (vt_isN (vv 6) ve_non) (vpw_or (vt_eq hr.units (vv 6) ve_int) (vpw_or ((vpw_and (vt_val (vv 4)) (vpw_and1 (vt_eq hr.units (vv 5) ve_int)))).vt (vpw_or1 ((vpw_and (vt_ne hr.units (vv 2) ve_str) (vpw_and1 (vt_eq hr.units (vv 6) ve_int)))).vt)))))).vt (vss_one (vs_ret ve_non)) vss_nil)
    (vss_cons (vs_setV (i := 7) nd rfl (by first | exact Or.inl rfl | exact Or.inr rfl) (ve_tup (va_cons (ve_mul (vv 5) (ve_ix (fun _ _ => rfl) (ve_lst (va_cons ve_int (va_cons (ve_neg ve_int) va_nil))) (ve_intOf (by rfl) T.n_int (vv 4)))) (va_cons (vv 6) va_nil))))
    (vss_one (vs_ret (ve_ifE (vt_eq hr.units (ve_call C_law_low (hr.mono (by decide)) (by rfl) tk (va_cons (ve_ix (fun _ _ => rfl) (vv 7) ve_int) (va_cons (vv 6) va_nil))) (vv 7)) (vv 7) ve_non))))))))))
def w_law_show_number (K : PySem.W.Frag) : WS := (wRet (wBin oAdd (wB oStr1 (wConsA (wBin oIx (wVar 0) (wC (.int 0))) wNil)) (wBin oIx (wLst (wConsA (wBin oAdd (wC (.str "/")) (wB oStr1 (wConsA (wBin oIx (wVar 0) (wC (.int 1))) wNil))) (wConsA (wC (.str "")) wNil))) (wB oInt1 (wConsA (wBin (oEq true) (wBin oIx (wVar 0) (wC (.int 1))) (wC (.int 1))) wNil)))))
theorem b_law_show_number (T : Tx K mg)  {f : Addr} (cdv : Value) (A : Around) (outer : List Env) (s : Shared) (H : Hp) (E : XK) (hr : Room 0 (A.deeper (envOfC "_law_show_number" (defScope s_law_show_number) s.heap.objs.size f cdv))) :
    VSs (cxOf (L2.CX P Wd) P Wd K mg base N_law_show_number "_law_show_number" (defScope s_law_show_number) f cdv A outer s H E) (fun cls d _ H => E cls d H) (defBody s_law_show_number) (w_law_show_number K) := by
  have tk : Takes (cxOf (L2.CX P Wd) P Wd K mg base N_law_show_number "_law_show_number" (defScope s_law_show_number) f cdv A outer s H E) (fun cls d _ H => E cls d H) := takes_of rfl rfl rfl rfl
  have nd := sc_law_show_number.nd
  exact (vss_one (vs_ret (ve_add (ve_strOf (by rfl) T.n_str (ve_ix (fun _ _ => rfl) (vv 0) ve_int)) (ve_ix (fun _ _ => rfl) (ve_lst (va_cons (ve_add ve_str (ve_strOf (by rfl) T.n_str (ve_ix (fun _ _ => rfl) (vv 0) ve_int))) (va_cons ve_str va_nil))) (ve_intOf (by rfl) T.n_int (ve_eq hr.units (ve_ix (fun _ _ => rfl) (vv 0) ve_int) ve_int))))))
def w_law_spoilt (K : PySem.W.Frag) : WS := (wSeq (wSetV 2 (wC (.str " !\"#$&'()*+,-./0123456789:;<=>?@ABCDEFGHIJKLMNOPQRSTUVWXYZ[\\]^_`abcdefghijklmnopqrstuvwxyz{|}~")))
    (wSeq (wFor (wiRng1 (wConsA (wBin oAdd (wC (.int 1)) (wCall (F_law_draw K) 2 (wConsA (wVar 0) (wConsA (wC (.int 2)) wNil)))) wNil)) (gwSet 3) (wSeq (wSetV 4 (wCall (F_law_draw K) 2 (wConsA (wVar 0) (wConsA (wC (.int 4)) wNil))))
      (wSeq (wSetV 5 (wCall (F_law_draw K) 2 (wConsA (wVar 0) (wConsA (wBin oAdd (wB oLen (wConsA (wVar 1) wNil)) (wC (.int 1))) wNil))))
      (wSeq (wSetV 6 (wBin oIx (wC (.str "0123456789-/ ;")) (wCall (F_law_draw K) 2 (wConsA (wVar 0) (wConsA (wC (.int 14)) wNil)))))
      (wSeq (wIf (wTst (wBin (oEq true) (wCall (F_law_draw K) 2 (wConsA (wVar 0) (wConsA (wC (.int 3)) wNil))) (wC (.int 0)))) (wSetV 6 (wBin oIx (wVar 2) (wCall (F_law_draw K) 2 (wConsA (wVar 0) (wConsA (wB oLen (wConsA (wVar 2) wNil)) wNil))))) wNext)
      (wIf (wTst (wBin (oCmp fun i j => decide (i < j)) (wVar 4) (wC (.int 2)))) (wSetV 1 (wBin oAdd (wBin oAdd (wSl (wVar 1) wNoP (wPart (wVar 5))) (wVar 6)) (wSl (wVar 1) (wPart (wVar 5)) wNoP))) (wIf (wTst (wBin (oEq true) (wVar 4) (wC (.int 2)))) (wSetV 1 (wBin oAdd (wSl (wVar 1) wNoP (wPart (wVar 5))) (wSl (wVar 1) (wPart (wBin oAdd (wVar 5) (wC (.int 1)))) wNoP))) (wSetV 1 (wBin oAdd (wBin oAdd (wSl (wVar 1) wNoP (wPart (wVar 5))) (wVar 6)) (wSl (wVar 1) (wPart (wBin oAdd (wVar 5) (wC (.int 1)))) wNoP))))))))))
    (wRet (wVar 1))))
theorem b_law_spoilt (T : Tx K mg) (C_law_draw : Fc P Wd K mg base 1 "_law_draw" 2 (F_law_draw K)) {f : Addr} (cdv : Value) (A : Around) (outer : List Env) (s : Shared) (H : Hp) (E : XK) (hr : Room 1 (A.deeper (envOfC "_law_spoilt" (defScope s_law_spoilt) s.heap.objs.size f cdv))) :
    VSs (cxOf (L2.CX P Wd) P Wd K mg base N_law_spoilt "_law_spoilt" (defScope s_law_spoilt) f cdv A outer s H E) (fun cls d _ H => E cls d H) (defBody s_law_spoilt) (w_law_spoilt K) := by
  have tk : Takes (cxOf (L2.CX P Wd) P Wd K mg base N_law_spoilt "_law_spoilt" (defScope s_law_spoilt) f cdv A outer s H E) (fun cls d _ H => E cls d H) := takes_of rfl rfl rfl rfl
  have nd := sc_law_spoilt.nd
  exact (vss_cons (vs_setV (i := 2) nd rfl (by first | exact Or.inl rfl | exact Or.inr rfl) ve_str)
    (vss_cons (vs_for (passes_of rfl) rfl (vi_range1 (by rfl) T.n_range (ve_add ve_int (ve_call C_law_draw (hr.mono (by decide)) (by rfl) tk (va_cons (vv 0) (va_cons ve_int va_nil))))) (VN.vg (vs := [3]) (vn_name (i := 3) (by decide) nd rfl (by first | exact Or.inl rfl | exact Or.inr rfl))) (vss_cons (vs_setV (i := 4) nd rfl (by first | exact Or.inl rfl | exact Or.inr rfl) (ve_call C_law_draw (hr.mono (by decide)) (by rfl) tk (va_cons (vv 0) (va_cons ve_int va_nil))))
      (vss_cons (vs_setV (i := 5) nd rfl (by first | exact Or.inl rfl | exact Or.inr rfl) (ve_call C_law_draw (hr.mono (by decide)) (by rfl) tk (va_cons (vv 0) (va_cons (ve_add (ve_len (by rfl) T.n_len (vv 1)) ve_int) va_nil))))
      (vss_cons (vs_setV (i := 6) nd rfl (by first | exact Or.inl rfl | exact Or.inr rfl) (ve_ix (fun _ _ => rfl) ve_str (ve_call C_law_draw (hr.mono (by decide)) (by rfl) tk (va_cons (vv 0) (va_cons ve_int va_nil)))))
      (vss_cons (vs_if (vt_eq hr.units (ve_call C_law_draw (hr.mono (by decide)) (by rfl) tk (va_cons (vv 0) (va_cons ve_int va_nil))) ve_int) (vss_one (vs_setV (i := 6) nd rfl (by first | exact Or.inl rfl | exact Or.inr rfl) (ve_ix (fun _ _ => rfl) (vv 2) (ve_call C_law_draw (hr.mono (by decide)) (by rfl) tk (va_cons (vv 0) (va_cons (ve_len (by rfl) T.n_len (vv 2)) va_nil)))))) vss_nil)
      (vss_one (vs_if (vt_lt (vv 4) ve_int) (vss_one (vs_setV (i := 1) nd rfl (by first | exact Or.inl rfl | exact Or.inr rfl) (ve_add (ve_add (ve_slice (vv 1) vo_none (vo_some (vv 5))) (vv 6)) (ve_slice (vv 1) (vo_some (vv 5)) vo_none)))) (vss_one (vs_if (vt_eq hr.units (vv 4) ve_int) (vss_one (vs_setV (i := 1) nd rfl (by first | exact Or.inl rfl | exact Or.inr rfl) (ve_add (ve_slice (vv 1) vo_none (vo_some (vv 5))) (ve_slice (vv 1) (vo_some (ve_add (vv 5) ve_int)) vo_none)))) (vss_one (vs_setV (i := 1) nd rfl (by first | exact Or.inl rfl | exact Or.inr rfl) (ve_add (ve_add (ve_slice (vv 1) vo_none (vo_some (vv 5))) (vv 6)) (ve_slice (vv 1) (vo_some (ve_add (vv 5) ve_int)) vo_none)))))))))))))
    (vss_one (vs_ret (vv 1)))))
def w_law_far_number (K : PySem.W.Frag) : WS := (wSeq (wAsg (wTup (wConsA (wC (.int 0)) (wConsA (wC (.int 0)) wNil))) (gwTup 2 (gwCons (gwSet 1) (gwCons (gwSet 2) gwNil))))
    (wSeq (wFor (wiRng1 (wConsA (wCall (F_law_draw K) 2 (wConsA (wVar 0) (wConsA (wC (.int 6)) wNil))) wNil)) (gwSet 3) (wSetV 1 (wBin oAdd (wBin oMul (wVar 1) (wBin (oInt CPow fun i j => i ^ j.toNat) (wC (.int 10)) (wC (.int 6)))) (wCall (F_law_draw K) 2 (wConsA (wVar 0) (wConsA (wBin (oInt CPow fun i j => i ^ j.toNat) (wC (.int 10)) (wC (.int 6))) wNil))))))
    (wSeq (wFor (wiRng1 (wConsA (wCall (F_law_draw K) 2 (wConsA (wVar 0) (wConsA (wC (.int 6)) wNil))) wNil)) (gwSet 3) (wSetV 2 (wBin oAdd (wBin oMul (wVar 2) (wBin (oInt CPow fun i j => i ^ j.toNat) (wC (.int 10)) (wC (.int 6)))) (wCall (F_law_draw K) 2 (wConsA (wVar 0) (wConsA (wBin (oInt CPow fun i j => i ^ j.toNat) (wC (.int 10)) (wC (.int 6))) wNil))))))
    (wRet (wCall (F_law_low K) 2 (wConsA (wBin oMul (wVar 1) (wBin oIx (wLst (wConsA (wC (.int 1)) (wConsA (wNeg (wC (.int 1))) wNil))) (wCall (F_law_draw K) 2 (wConsA (wVar 0) (wConsA (wC (.int 2)) wNil))))) (wConsA (wB (oI2 fun i j => if j > i then j else i) (wConsA (wC (.int 1)) (wConsA (wVar 2) wNil))) wNil)))))))
theorem b_law_far_number (T : Tx K mg) (C_law_draw : Fc P Wd K mg base 1 "_law_draw" 2 (F_law_draw K)) (C_law_low : Fc P Wd K mg base 1 "_law_low" 2 (F_law_low K)) {f : Addr} (cdv : Value) (A : Around) (outer : List Env) (s : Shared) (H : Hp) (E : XK) (hr : Room 1 (A.deeper (envOfC "_law_far_number" (defScope s_law_far_number) s.heap.objs.size f cdv))) :
    VSs (cxOf (L2.CX P Wd) P Wd K mg base N_law_far_number "_law_far_number" (defScope s_law_far_number) f cdv A outer s H E) (fun cls d _ H => E cls d H) (defBody s_law_far_number) (w_law_far_number K) := by
  have tk : Takes (cxOf (L2.CX P Wd) P Wd K mg base N_law_far_number "_law_far_number" (defScope s_law_far_number) f cdv A outer s H E) (fun cls d _ H => E cls d H) := takes_of rfl rfl rfl rfl
  have nd := sc_law_far_number.nd
  exact (vss_cons (vs_asg (ve_tup (va_cons ve_int (va_cons ve_int va_nil))) (vg_tup rfl (vgs_cons (vg_name (i := 1) nd rfl (by first | exact Or.inl rfl | exact Or.inr rfl)) (vgs_cons (vg_name (i := 2) nd rfl (by first | exact Or.inl rfl | exact Or.inr rfl)) vgs_nil))))
    (vss_cons (vs_for (passes_of rfl) rfl (vi_range1 (by rfl) T.n_range (ve_call C_law_draw (hr.mono (by decide)) (by rfl) tk (va_cons (vv 0) (va_cons ve_int va_nil)))) (VN.vg (vs := [3]) (vn_name (i := 3) (by decide) nd rfl (by first | exact Or.inl rfl | exact Or.inr rfl))) (vss_one (vs_setV (i := 1) nd rfl (by first | exact Or.inl rfl | exact Or.inr rfl) (ve_add (ve_mul (vv 1) (ve_pow ve_int ve_int)) (ve_call C_law_draw (hr.mono (by decide)) (by rfl) tk (va_cons (vv 0) (va_cons (ve_pow ve_int ve_int) va_nil)))))))
    (vss_cons (vs_for (passes_of rfl) rfl (vi_range1 (by rfl) T.n_range (ve_call C_law_draw (hr.mono (by decide)) (by rfl) tk (va_cons (vv 0) (va_cons ve_int va_nil)))) (VN.vg (vs := [3]) (vn_name (i := 3) (by decide) nd rfl (by first | exact Or.inl rfl | exact Or.inr rfl))) (vss_one (vs_setV (i := 2) nd rfl (by first | exact Or.inl rfl | exact Or.inr rfl) (ve_add (ve_mul (vv 2) (ve_pow ve_int ve_int)) (ve_call C_law_draw (hr.mono (by decide)) (by rfl) tk (va_cons (vv 0) (va_cons (ve_pow ve_int ve_int) va_nil)))))))
    (vss_one (vs_ret (ve_call C_law_low (hr.mono (by decide)) (by rfl) tk (va_cons (ve_mul (vv 1) (ve_ix (fun _ _ => rfl) (ve_lst (va_cons ve_int (va_cons (ve_neg ve_int) va_nil))) (ve_call C_law_draw (hr.mono (by decide)) (by rfl) tk (va_cons (vv 0) (va_cons ve_int va_nil))))) (va_cons (ve_max2 rfl (by rfl) T.n_max ve_int (vv 2)) va_nil))))))))
def w_law_said (K : PySem.W.Frag) : WS := (wSeq (wTryR K 3 2 (.ref (He.ga K "RestError")) (wSetV 1 (wCall (F_read_number K) 1 (wConsA (wVar 0) wNil))) (fun ad cls => (wRet (wTup (wConsA (wC (.str "refused")) (wConsA (wB (oWhich K cls ad) (wConsA (wVar 2) wNil)) wNil))))))
    (wRet (wTup (wConsA (wC (.str "told")) (wConsA (wVar 1) wNil)))))
theorem b_law_said (T : Tx K mg) (C_read_number : Fc P Wd K mg base 3 "read_number" 1 (F_read_number K)) (C_law_which : Fw P Wd K mg base 1) {f : Addr} (cdv : Value) (A : Around) (outer : List Env) (s : Shared) (H : Hp) (E : XK) (hr : Room 3 (A.deeper (envOfC "_law_said" (defScope s_law_said) s.heap.objs.size f cdv))) :
    VSs (cxOf (L2.CX P Wd) P Wd K mg base N_law_said "_law_said" (defScope s_law_said) f cdv A outer s H E) (fun cls d _ H => E cls d H) (defBody s_law_said) (w_law_said K) := by
  have tk : Takes (cxOf (L2.CX P Wd) P Wd K mg base N_law_said "_law_said" (defScope s_law_said) f cdv A outer s H E) (fun cls d _ H => E cls d H) := takes_of rfl rfl rfl rfl
  have nd := sc_law_said.nd
  exact (vss_cons (vs_tryR (i := 2) rfl rfl nd rfl rfl ⟨by rfl, by decide, .inl T.g_RestError⟩ tk (fun _ _ _ tk => (vss_one (vs_setV (i := 1) nd rfl (by first | exact Or.inl rfl | exact Or.inr rfl) (ve_call C_read_number (hr.mono (by decide)) (by rfl) tk (va_cons (vv 0) va_nil))))) (fun p cls pn hz hf => (vss_one (vs_ret (ve_tup (va_cons ve_str (va_cons (ve_which C_law_which (rH_mark (hr.mono (by decide))) takes0 hz hf List.mem_cons_self (by rfl) (vv 2)) va_nil)))))))
    (vss_one (vs_ret (ve_tup (va_cons ve_str (va_cons (vv 1) va_nil))))))
def w_law_is_read (K : PySem.W.Frag) : WS := (wSeq (wSetV 1 (wCall (F_law_read_number K) 1 (wConsA (wVar 0) wNil)))
    (wSeq (wSetV 2 (wCall (F_law_said K) 1 (wConsA (wVar 0) wNil)))
    (wSeq (wIf (wTst (wBin (oIsN true) (wVar 1) (wC .none))) (wRet (wBin (oEq true) (wVar 2) (wTup (wConsA (wC (.str "refused")) (wConsA (wC (.str "text")) wNil))))) wNext)
    (wRet (wAndV (wBin (oEq true) (wVar 2) (wTup (wConsA (wC (.str "told")) (wConsA (wVar 1) wNil)))) (wCall (F_law_is_number K) 1 (wConsA (wBin oIx (wVar 2) (wC (.int 1))) wNil)))))))
theorem b_law_is_read (T : Tx K mg) (C_law_read_number : Fc P Wd K mg base 2 "_law_read_number" 1 (F_law_read_number K)) (C_law_said : Fc P Wd K mg base 4 "_law_said" 1 (F_law_said K)) (C_law_is_number : Fc P Wd K mg base 2 "_law_is_number" 1 (F_law_is_number K)) {f : Addr} (cdv : Value) (A : Around) (outer : List Env) (s : Shared) (H : Hp) (E : XK) (hr : Room 4 (A.deeper (envOfC "_law_is_read" (defScope s_law_is_read) s.heap.objs.size f cdv))) :
    VSs (cxOf (L2.CX P Wd) P Wd K mg base N_law_is_read "_law_is_read" (defScope s_law_is_read) f cdv A outer s H E) (fun cls d _ H => E cls d H) (defBody s_law_is_read) (w_law_is_read K) := by
  have tk : Takes (cxOf (L2.CX P Wd) P Wd K mg base N_law_is_read "_law_is_read" (defScope s_law_is_read) f cdv A outer s H E) (fun cls d _ H => E cls d H) := takes_of rfl rfl rfl rfl
  have nd := sc_law_is_read.nd
  exact (vss_cons (vs_setV (i := 1) nd rfl (by first | exact Or.inl rfl | exact Or.inr rfl) (ve_call C_law_read_number (hr.mono (by decide)) (by rfl) tk (va_cons (vv 0) va_nil)))
    (vss_cons (vs_setV (i := 2) nd rfl (by first | exact Or.inl rfl | exact Or.inr rfl) (ve_call C_law_said (hr.mono (by decide)) (by rfl) tk (va_cons (vv 0) va_nil)))
    (vss_cons (vs_if (vt_isN (vv 1) ve_non) (vss_one (vs_ret (ve_eq hr.units (vv 2) (ve_tup (va_cons ve_str (va_cons ve_str va_nil)))))) vss_nil)
    (vss_one (vs_ret (ve_and (ve_eq hr.units (vv 2) (ve_tup (va_cons ve_str (va_cons (vv 1) va_nil)))) (ve_one (ve_call C_law_is_number (hr.mono (by decide)) (by rfl) tk (va_cons (ve_ix (fun _ _ => rfl) (vv 2) ve_int) va_nil)))))))))
def w_law_r2 (K : PySem.W.Frag) : WS := (wFor (wiRng1 (wConsA (wC (.int 2)) wNil)) (gwSet 6) (wSeq (wSetV 7 (wCall (F_show_number K) 1 (wConsA (wVar 3) wNil)))
        (wSeq (wIf (wOr (wNot (wTst (wB oIsi (wConsA (wVar 7) (wConsA (wR (.ty "str")) wNil))))) (wOr (wTst (wBin (oEq false) (wVar 7) (wVar 4))) (wNot (wTst (wB (oAll fun bs => bs.all id) (wConsA (wLc (wiSeq (wVar 5)) (gwSet 8) wYes (wCall (F_law_is_read K) 1 (wConsA (wVar 8) wNil)) [8] 0) wNil)))))) (wRet (wC (.bool false))) wNext)
        (wFor (wiSeq (wLst (wConsA (wC .none) (wConsA (wC (.int 5)) (wConsA (wC (.bool true)) (wConsA (wLst (wConsA (wVar 4) wNil)) (wConsA (wTup (wConsA (wVar 4) wNil)) (wConsA (wVar 3) (wConsA (wLst wNil) wNil))))))))) (gwSet 9) (wIf (wTst (wBin (oEq false) (wCall (F_law_said K) 1 (wConsA (wVar 9) wNil)) (wTup (wConsA (wC (.str "refused")) (wConsA (wC (.str "text")) wNil))))) (wRet (wC (.bool false))) wNext)))))
def w_law_r1 (K : PySem.W.Frag) : WS := (wSeq (wSetV 4 (wCall (F_law_show_number K) 1 (wConsA (wVar 3) wNil)))
      (wSeq (wSetV 5 (wLst (wConsA (wVar 4) (wConsA (wCall (F_law_spoilt K) 2 (wConsA (wVar 2) (wConsA (wVar 4) wNil))) (wConsA (wCall (F_law_spoilt K) 2 (wConsA (wVar 2) (wConsA (wVar 4) wNil))) (wConsA (wC (.str "")) (wConsA (wC (.str "-")) (wConsA (wC (.str "/")) (wConsA (wC (.str "-0")) (wConsA (wC (.str "00")) (wConsA (wC (.str "0/1")) (wConsA (wC (.str "2/4")) (wConsA (wC (.str "1/0")) wNil)))))))))))))
      (wSeq (wSetV 5 (wBin oAdd (wVar 5) (wLst (wConsA (wC (.str "+1")) (wConsA (wC (.str "0")) (wConsA (wC (.str "1/-2")) (wConsA (wC (.str "-1/2")) (wConsA (wC (.str "1/2/3")) (wConsA (wC (.str " 1")) (wConsA (wC (.str "1 ")) (wConsA (wBin oAdd (wVar 4) (wVar 4)) (wConsA (wBin oMul (wC (.str "9")) (wC (.int 30))) (wConsA (wBin oMul (wC (.str "9")) (wC (.int 31))) (wConsA (wC (.str "0/5")) wNil))))))))))))))
      (wSeq (wSetV 5 (wBin oAdd (wVar 5) (wLst (wConsA (wBin oAdd (wC (.str "1/")) (wBin oMul (wC (.str "7")) (wC (.int 30)))) (wConsA (wBin oAdd (wC (.str "1/")) (wBin oMul (wC (.str "7")) (wC (.int 31)))) (wConsA (wBin oAdd (wC (.str "-")) (wBin oMul (wC (.str "8")) (wC (.int 30)))) (wConsA (wBin oAdd (wC (.str "-")) (wBin oMul (wC (.str "8")) (wC (.int 31)))) wNil)))))))
      (w_law_r2 K)))))
def w_law (K : PySem.W.Frag) : WS := (wSeq (wFor (wiRng1 (wConsA (wB (oI2 fun i j => if j > i then j else i) (wConsA (wC (.int 1)) (wConsA (wB (oI2 fun i j => if j < i then j else i) (wConsA (wC (.int 4)) (wConsA (wB oLen (wConsA (wVar 0) wNil)) wNil))) wNil))) wNil)) (gwSet 1) (wSeq (wSet 2 (wCall (F_law_urn K) 2 (wConsA (wVar 0) (wConsA (wVar 1) wNil))))
      (wUrn 2 (wSeq (wSetV 3 (wCall (F_law_far_number K) 1 (wConsA (wVar 2) wNil)))
      (wSeq (wIf (wTst (wBin (oEq true) (wCall (F_law_draw K) 2 (wConsA (wVar 2) (wConsA (wC (.int 3)) wNil))) (wC (.int 0)))) (wSetV 3 (wCall (F_law_number K) 2 (wConsA (wVar 2) (wConsA (wCall (F_law_kind K) 1 (wConsA (wVar 2) wNil)) wNil)))) wNext)
      (w_law_r1 K))))))
    (wRet (wC (.bool true))))
theorem b_law (T : Tx K mg) (C_law_urn : Fc P Wd K mg base 1 "_law_urn" 2 (F_law_urn K)) (C_law_far_number : Fc P Wd K mg base 2 "_law_far_number" 1 (F_law_far_number K)) (C_law_draw : Fc P Wd K mg base 1 "_law_draw" 2 (F_law_draw K)) (C_law_kind : Fc P Wd K mg base 2 "_law_kind" 1 (F_law_kind K)) (C_law_number : Fc P Wd K mg base 2 "_law_number" 2 (F_law_number K)) (C_law_show_number : Fc P Wd K mg base 1 "_law_show_number" 1 (F_law_show_number K)) (C_law_spoilt : Fc P Wd K mg base 2 "_law_spoilt" 2 (F_law_spoilt K)) (C_show_number : Fc P Wd K mg base 1 "show_number" 1 (F_show_number K)) (C_law_is_read : Fc P Wd K mg base 5 "_law_is_read" 1 (F_law_is_read K)) (C_law_said : Fc P Wd K mg base 4 "_law_said" 1 (F_law_said K)) {f : Addr} (cdv : Value) (A : Around) (outer : List Env) (s : Shared) (H : Hp) (E : XK) (hr : Room 5 (A.deeper (envOfC "law" (defScope s_law) s.heap.objs.size f cdv))) :
    VSs (cxOf (L2.CX P Wd) P Wd K mg base N_law "law" (defScope s_law) f cdv A outer s H E) (fun cls d _ H => E cls d H) (defBody s_law) (w_law K) := by
  have tk : Takes (cxOf (L2.CX P Wd) P Wd K mg base N_law "law" (defScope s_law) f cdv A outer s H E) (fun cls d _ H => E cls d H) := takes_of rfl rfl rfl rfl
  have nd := sc_law.nd
  exact (vss_cons (vs_for (passes_of rfl) rfl (vi_range1 (by rfl) T.n_range (ve_max2 rfl (by rfl) T.n_max ve_int (ve_min2 rfl (by rfl) T.n_min ve_int (ve_len (by rfl) T.n_len (vv 0))))) (VN.vg (vs := [1]) (vn_name (i := 1) (by decide) nd rfl (by first | exact Or.inl rfl | exact Or.inr rfl))) (vss_cons (vs_set (i := 2) nd rfl (by first | exact Or.inl rfl | exact Or.inr rfl) (ve_call C_law_urn (hr.mono (by decide)) (by rfl) tk (va_cons (vv 0) (va_cons (vv 1) va_nil))))
      (vss_urn 2 (vss_cons (vs_setV (i := 3) nd rfl (by first | exact Or.inl rfl | exact Or.inr rfl) (ve_call C_law_far_number (hr.mono (by decide)) (by rfl) tk (va_cons (vv 2) va_nil)))
      (vss_cons (vs_if (vt_eq hr.units (ve_call C_law_draw (hr.mono (by decide)) (by rfl) tk (va_cons (vv 2) (va_cons ve_int va_nil))) ve_int) (vss_one (vs_setV (i := 3) nd rfl (by first | exact Or.inl rfl | exact Or.inr rfl) (ve_call C_law_number (hr.mono (by decide)) (by rfl) tk (va_cons (vv 2) (va_cons (ve_call C_law_kind (hr.mono (by decide)) (by rfl) tk (va_cons (vv 2) va_nil)) va_nil))))) vss_nil)
      (vss_cons (vs_setV (i := 4) nd rfl (by first | exact Or.inl rfl | exact Or.inr rfl) (ve_call C_law_show_number (hr.mono (by decide)) (by rfl) tk (va_cons (vv 3) va_nil)))
      (vss_cons (vs_setV (i := 5) nd rfl (by first | exact Or.inl rfl | exact Or.inr rfl) (ve_lst (va_cons (vv 4) (va_cons (ve_call C_law_spoilt (hr.mono (by decide)) (by rfl) tk (va_cons (vv 2) (va_cons (vv 4) va_nil))) (va_cons (ve_call C_law_spoilt (hr.mono (by decide)) (by rfl) tk (va_cons (vv 2) (va_cons (vv 4) va_nil))) (va_cons ve_str (va_cons ve_str (va_cons ve_str (va_cons ve_str (va_cons ve_str (va_cons ve_str (va_cons ve_str (va_cons ve_str va_nil)))))))))))))
      (vss_cons (vs_setV (i := 5) nd rfl (by first | exact Or.inl rfl | exact Or.inr rfl) (ve_add (vv 5) (ve_lst (va_cons ve_str (va_cons ve_str (va_cons ve_str (va_cons ve_str (va_cons ve_str (va_cons ve_str (va_cons ve_str (va_cons (ve_add (vv 4) (vv 4)) (va_cons (ve_mul ve_str ve_int) (va_cons (ve_mul ve_str ve_int) (va_cons ve_str va_nil))))))))))))))
      (vss_cons (vs_setV (i := 5) nd rfl (by first | exact Or.inl rfl | exact Or.inr rfl) (ve_add (vv 5) (ve_lst (va_cons (ve_add ve_str (ve_mul ve_str ve_int)) (va_cons (ve_add ve_str (ve_mul ve_str ve_int)) (va_cons (ve_add ve_str (ve_mul ve_str ve_int)) (va_cons (ve_add ve_str (ve_mul ve_str ve_int)) va_nil)))))))
      (vss_one (vs_for (passes_of rfl) rfl (vi_range1 (by rfl) T.n_range ve_int) (VN.vg (vs := [6]) (vn_name (i := 6) (by decide) nd rfl (by first | exact Or.inl rfl | exact Or.inr rfl))) (vss_cons (vs_setV (i := 7) nd rfl (by first | exact Or.inl rfl | exact Or.inr rfl) (ve_call C_show_number (hr.mono (by decide)) (by rfl) tk (va_cons (vv 3) va_nil)))
        (vss_cons (vs_if ((vpw_or (vt_not (vt_val (ve_isi (by rfl) T.n_isinstance (vv 7) (ve_bltnR (v := .ty "str") (by rfl) T.n_str (by decide +kernel) rfl)))) (vpw_or (vt_ne hr.units (vv 7) (vv 4)) (vpw_or1 (vt_not (vt_val (ve_all rfl (by rfl) T.n_all (ve_lc 0 (own := [("_law_one", 8)]) rfl nd (vi_seq (vv 5)) (blkOk_by (own := [("_law_one", 8)]) (N := N_law) (sc := defScope s_law) (by decide +kernel)) (fun _ _ _ _ _ => (vn_name (i := 8) (by decide) nd rfl (by first | exact Or.inl rfl | exact Or.inr rfl))) (fun _ _ _ _ _ => vts_nil) (fun _ _ _ _ _ => (ve_call C_law_is_read (hr.mono (by decide)) (by rfl) takes0 (va_cons (vv 8) va_nil))))))))))).vt (vss_one (vs_ret ve_bl)) vss_nil)
        (vss_one (vs_for (passes_of rfl) rfl (vi_seq (ve_lst (va_cons ve_non (va_cons ve_int (va_cons ve_bl (va_cons (ve_lst (va_cons (vv 4) va_nil)) (va_cons (ve_tup (va_cons (vv 4) va_nil)) (va_cons (vv 3) (va_cons (ve_lst va_nil) va_nil))))))))) (VN.vg (vs := [9]) (vn_name (i := 9) (by decide) nd rfl (by first | exact Or.inl rfl | exact Or.inr rfl))) (vss_one (vs_if (vt_ne hr.units (ve_call C_law_said (hr.mono (by decide)) (by rfl) tk (va_cons (vv 9) va_nil)) (ve_tup (va_cons ve_str (va_cons ve_str va_nil)))) (vss_one (vs_ret ve_bl)) vss_nil)))))))))))))))))
    (vss_one (vs_ret ve_bl)))
end
end Lw

set_option linter.all false
set_option maxRecDepth 100000
set_option maxHeartbeats 2000000
/-! what the readings compute -/
set_option exponentiation.threshold 20000
namespace Lw
open PySem PySem.Spec PyProof.Rows VL
local macro_rules | `(tactic| walk_at "x") => `(tactic| simp only [on1_some, onOI_x, onD_val, onD_own, onB_x, onI_x, onV_val, onV_urn, onV_raw, onV_scr, onO_own, onDs_nil, onDs_cons, onBS_x, on2_x, onL1_x, onL_x, onU_x, onSeq_l, onSeq_t, onStr_x, onZ_l, onZ_t,
  retS_val, retS_own, argS_val, argS_own, argS_urn, argS_raw, argS_scr, frzS_val, frzS_own, frzS_urn, frzS_raw, frzS_scr, frzS_no,
  x_dOf, x_wDats, x_var, x_c, x_r, x_bin, x_ixs, x_tst, x_and, x_or, x_not, x_andV, x_orV, x_notV, x_ifE, x_chain, x_neg, x_nil, x_cons, x_tup, x_lst, x_b, x_m, x_call, x_nop, x_part, x_sl, x_peek, x_peekT, x_ownIx, x_own0, x_ownS,
  x_seq, x_next, x_break, x_cont, x_ret, x_retN, x_retO, x_if, x_raise, x_set, x_setV, x_frz, x_asg, x_gset, x_gnil, x_gcons, x_gtup, x_gsub, x_par, x_aug, x_app, x_ext, x_pop, x_popN, x_urn, x_for, x_while, x_lc, x_yes,
  x_wiSeq, x_rng1, x_rng2, x_wiStr, x_wiEnum, x_wiZip, x_wiRev,
  o_add, o_addS, o_addL, o_addT, o_int, o_cmp, o_eq, o_ixL, o_ixT, o_ixS, o_slL, o_slT, o_slS, o_inS, o_i1, o_i2, o_lenL, o_lenT, o_lenS, o_lenR, o_intI, o_intB, o_str, o_isi, o_list, o_tuple, o_mul, o_mulS, o_isN, non_n, non_b, non_i, non_s, non_l, non_t, ty_n, ty_b, ty_i, ty_s, ty_l, ty_t, o_part, o_split, p_10_3, t_10_3, p_10_6, t_10_6, p_10_12, t_10_12, p_10_18, t_10_18, o_starts,
  kit_nb, kit_ni, kit_ns, kit_nl, kit_nt, kit_bb, kit_bi, kit_bs, kit_bl, kit_bt, kit_ib, kit_ii, kit_is, kit_il, kit_it, kit_sb, kit_si, kit_ss, kit_sl, kit_st, kit_lb, kit_li, kit_ls, kit_ll, kit_lt, kit_tb, kit_ti, kit_ts, kit_tl, kit_tt,
 
  List.getElem?_cons_zero, List.getElem?_cons_succ, List.length_cons, List.length_nil, List.set_cons_zero, List.set_cons_succ, List.map_cons, List.map_nil, Option.map_some, Option.getD_some, wipeS, e_ii, e_ss, e_bb, e_nn, e_ni, e_in, e_ns, e_sn, e_nt, e_tn, e_nl, e_ln, e_is, e_si, e_it, e_ti, e_il, e_li, e_st, e_ts, e_sl, e_ls, e_tl, e_lt, e_tt, e_ll, ea_nil, ea_nc, ea_cn, ea_cc, sh_n, sh_b, sh_i, sh_ii, ok_ss, ok_sn, ok_ns, ok_si, ok_is, ok_ii, ok_ni, ok_in, ok_tt, ok_ll, bt, bf, ndec, at_0, at_1, at_2, at_3, at_4, at_5, at_6, at_7,
  Bool.and_eq_true, Bool.true_and, Bool.and_true, Bool.false_and, Bool.and_false, Bool.not_true, Bool.not_false, ite_not, true_and, and_true, decide_eq_true_eq, if_true, Bool.false_eq_true, if_false, ↓reduceIte, Nat.lt_add_left_iff_pos, Nat.zero_lt_succ])
theorem gcd_step (x y : Int) (hy : 0 < y) : Int.gcd y (x % y) = Int.gcd x y := by
  have e : x % y = x + -(x / y) * y := by
    have := Int.emod_def x y
    rw [this, Int.mul_comm y]; simp [Int.sub_eq_add_neg, Int.neg_mul]
  rw [e, Int.gcd_add_mul_right_right, Int.gcd_comm]
theorem fmod_pos (x : Int) {y : Int} (hy : 0 < y) : 0 ≤ x.fmod y ∧ x.fmod y < y ∧ x.fmod y = x % y := by
  rw [Int.fmod_eq_emod_of_nonneg _ (by omega)]
  exact ⟨Int.emod_nonneg x (by omega), Int.emod_lt_of_pos x hy, rfl⟩
theorem abs_if (a : Int) : (if a < 0 then -a else a) = (a.natAbs : Int) := by split <;> omega
theorem sem_shared_divisor (K : PySem.W.Frag) : ∀ (ss : List Sl) (Qv : Sl → Prop) (Ev : EX), ss.length = 2 → F_shared_divisor K ss Qv Ev → w_shared_divisor K { nx := fun _ => Qv (.val .none), rt := Qv, ex := Ev } (rho0 N_shared_divisor ss) := by
  rintro ss Qv Ev - ⟨a, b, rfl, h⟩
  show w_shared_divisor K _ [.val (.int a), .val (.int b)]
  unfold w_shared_divisor
  walk_at "x"
  refine ⟨fun m ρ => ∃ x y : Int, ρ = [.val (.int x), .val (.int y)] ∧ 0 ≤ x ∧ 0 ≤ y ∧ Int.gcd x y = Int.gcd a b ∧ m = y.natAbs, ⟨_, _, _, rfl, ?_, ?_, ?_, rfl⟩, ?_⟩
  · split <;> omega
  · split <;> omega
  · rw [abs_if, abs_if]; simp [Int.gcd]
  rintro m ρ ⟨x, y, rfl, hx, hy, hg, rfl⟩
  walk_at "x"
  by_cases c : 0 < y
  · rw [if_pos c]
    obtain ⟨m1, m2, m3⟩ := fmod_pos x c
    refine ⟨by omega, _, ?_, _, _, rfl, hy, m1, ?_, rfl⟩
    · omega
    · rw [m3, ← hg]; exact gcd_step x y c
  · rw [if_neg (by simp; omega)]
    have : y = 0 := by omega
    subst this
    rw [← hg, Int.gcd_zero_right] at h
    have : (x.natAbs : Int) = x := by omega
    rw [this] at h; exact h
theorem sem_law_low (K : PySem.W.Frag) : ∀ (ss : List Sl) (Qv : Sl → Prop) (Ev : EX), ss.length = 2 → F_law_low K ss Qv Ev → w_law_low K { nx := fun _ => Qv (.val .none), rt := Qv, ex := Ev } (rho0 N_law_low ss) := by
  rintro ss Qv Ev - ⟨a, b, rfl, hb, la, lb, h⟩
  show w_law_low K _ [.val (.int a), .val (.int b), .no, .no]
  unfold w_law_low
  walk_at "x"
  refine ⟨fun m ρ => ∃ x y : Int, ρ = [.val (.int a), .val (.int b), .val (.int x), .val (.int y)] ∧ 0 ≤ x ∧ 0 ≤ y ∧ Int.gcd x y = Int.gcd a b ∧ m = y.natAbs, ⟨_, _, _, rfl, ?_, ?_, ?_, rfl⟩, ?_⟩
  · split <;> omega
  · split <;> omega
  · rw [abs_if, abs_if]; simp [Int.gcd]
  rintro m ρ ⟨x, y, rfl, hx, hy, hg, rfl⟩
  walk_at "x"
  by_cases c : 0 < y
  · rw [if_pos c]
    obtain ⟨m1, m2, m3⟩ := fmod_pos x c
    refine ⟨by omega, _, ?_, _, _, rfl, hy, m1, ?_, rfl⟩
    · omega
    · rw [m3, ← hg]; exact gcd_step x y c
  · rw [if_neg (by simp; omega)]
    have : y = 0 := by omega
    subst this
    rw [Int.gcd_zero_right] at hg
    have hxg : x = (Int.gcd a b : Int) := by omega
    have g0 : 0 < Int.gcd a b := Int.gcd_pos_of_ne_zero_right a hb
    have gl : Int.gcd a b ≤ b.natAbs := Nat.le_of_dvd (by omega) (Nat.gcd_dvd_right _ _)
    have lg : (Int.gcd a b).log2 < 9000 := by
      refine (Nat.log2_lt (by omega)).mpr (Nat.lt_trans (Nat.lt_of_le_of_lt gl lb) ?_)
      exact Nat.lt_of_lt_of_le (show 10 ^ 300 < 2 ^ 1000 by decide +kernel) (Nat.pow_le_pow_right (by decide) (by decide))
    subst hxg
    unfold lowN at h
    by_cases cb : b < 0
    · rw [if_pos cb] at h ⊢
      refine ⟨⟨by omega, ?_⟩, ⟨by omega, ?_⟩, by decide, h⟩
      · simpa using lg
      · simpa using lg
    · rw [if_neg cb] at h ⊢
      refine ⟨⟨by omega, ?_⟩, ⟨by omega, ?_⟩, by decide, h⟩
      · simpa using lg
      · simpa using lg

theorem log_of {a : Int} (h : a.natAbs < 10 ^ 300) : a.natAbs.log2 < 1100 := by
  by_cases z : a.natAbs = 0
  · rw [z]; decide
  · exact (Nat.log2_lt z).mpr (Nat.lt_trans h (by decide +kernel))
theorem txt_len {a : Int} (h : a.natAbs < 10 ^ 300) : (Str.ofString (toString a)).length ≤ 1921 := int_text_len_1921 (Nat.lt_trans (log_of h) (by decide))
theorem len_app (x y : Str) : (x ++ y).length = x.length + y.length := by
  show (x.cps ++ y.cps).size = _
  rw [Array.size_append]; rfl
theorem slash_len : ("/" : Str).length = 1 := by decide +kernel
theorem size_pos : 100000 ≤ sizeLine := by decide
theorem numT_len {a b : Int} (ha : a.natAbs < 10 ^ 300) (hb : b.natAbs < 10 ^ 300) : (numT a b).length ≤ 4000 := by
  unfold numT
  have := txt_len ha
  have := txt_len hb
  split
  · omega
  · rw [len_app, len_app, slash_len]; omega
theorem sem_show_number (K : PySem.W.Frag) : ∀ (ss : List Sl) (Qv : Sl → Prop) (Ev : EX), ss.length = 1 → F_show_number K ss Qv Ev → w_show_number K { nx := fun _ => Qv (.val .none), rt := Qv, ex := Ev } (rho0 N_show_number ss) := by
  rintro ss Qv Ev - ⟨a, b, rfl, la, lb, h⟩
  show w_show_number K _ [.val (.tuple [.int a, .int b])]
  unfold w_show_number
  walk_at "x"
  have l1 := log_of la
  have l2 := log_of lb
  have t1 := txt_len la
  have t2 := txt_len lb
  unfold numT at h
  by_cases c : b = 1
  · rw [if_pos c] at h ⊢
    exact ⟨by omega, h⟩
  · rw [if_neg c] at h ⊢
    refine ⟨by omega, ?_, by omega, ?_, h⟩
    · rw [slash_len]; exact Nat.le_trans (by omega : _ ≤ 100000) size_pos
    · rw [len_app, slash_len]; exact Nat.le_trans (by omega : _ ≤ 100000) size_pos
theorem app_nil (x : Str) : x ++ ("" : Str) = x := by
  refine str_ext ?_
  show (x.cps ++ ("" : Str).cps).toList = x.cps.toList
  have : ("" : Str).cps = #[] := by decide +kernel
  rw [this]; simp
theorem app_assoc (x y z : Str) : x ++ y ++ z = x ++ (y ++ z) := by
  refine str_ext ?_
  show (x.cps ++ y.cps ++ z.cps).toList = (x.cps ++ (y.cps ++ z.cps)).toList
  simp
theorem sem_law_show_number (K : PySem.W.Frag) : ∀ (ss : List Sl) (Qv : Sl → Prop) (Ev : EX), ss.length = 1 → F_law_show_number K ss Qv Ev → w_law_show_number K { nx := fun _ => Qv (.val .none), rt := Qv, ex := Ev } (rho0 N_law_show_number ss) := by
  rintro ss Qv Ev - ⟨a, b, rfl, la, lb, h⟩
  show w_law_show_number K _ [.val (.tuple [.int a, .int b])]
  unfold w_law_show_number
  walk_at "x"
  have l1 := log_of la
  have l2 := log_of lb
  have t1 := txt_len la
  have t2 := txt_len lb
  refine ⟨by omega, by omega, ?_, ?_⟩
  · rw [slash_len]; exact Nat.le_trans (by omega : _ ≤ 100000) size_pos
  refine ⟨by decide, ?_⟩
  unfold numT at h
  by_cases c : b = 1
  · rw [if_pos c] at h ⊢
    walk_at "x"
    rw [app_nil]
    exact ⟨by rw [show ("" : Str).length = 0 by decide +kernel]; exact Nat.le_trans (by omega : _ ≤ 100000) size_pos, h⟩
  · rw [if_neg c] at h ⊢
    walk_at "x"
    rw [← app_assoc, len_app, slash_len]
    exact ⟨Nat.le_trans (by omega : _ ≤ 100000) size_pos, h⟩
theorem gcd_pos' (a : Int) {b : Int} (hb : b ≠ 0) : 0 < Int.gcd a b := Int.gcd_pos_of_ne_zero_right a hb
theorem low_ok (a : Int) {b : Int} (hb : b ≠ 0) {B : Nat} (la : a.natAbs < B) (lb : b.natAbs < B) : numOk B (lowN a b).1 (lowN a b).2 := by
  have g0 := gcd_pos' a hb
  have da : (Int.gcd a b : Int) ∣ a := Int.gcd_dvd_left a b
  have db : (Int.gcd a b : Int) ∣ b := Int.gcd_dvd_right a b
  obtain ⟨x, hx⟩ := da
  obtain ⟨y, hy⟩ := db
  generalize hg : Int.gcd a b = g at *
  have gp : (0 : Int) < g := by omega
  have cop : Int.gcd x y = 1 := by
    have := Int.gcd_mul_left (g : Int) x y
    rw [← hx, ← hy, hg] at this
    have : g * 1 = g * Int.gcd x y := by simpa using this
    exact (Nat.eq_of_mul_eq_mul_left (by omega) this).symm
  have bx : x.natAbs ≤ a.natAbs := by
    rw [hx, Int.natAbs_mul]
    exact Nat.le_mul_of_pos_left _ (by omega)
  have by_ : y.natAbs ≤ b.natAbs := by
    rw [hy, Int.natAbs_mul]
    exact Nat.le_mul_of_pos_left _ (by omega)
  unfold lowN numOk
  rw [hg]
  by_cases cb : b < 0
  · rw [if_pos cb]
    have e : (0 - (g : Int)) = -(g : Int) := by omega
    have ea : a.fdiv (0 - (g : Int)) = -x := by
      rw [e, hx, show (g : Int) * x = -(g : Int) * -x by rw [Int.neg_mul_neg]]
      exact Int.mul_fdiv_cancel_left _ (by omega)
    have eb : b.fdiv (0 - (g : Int)) = -y := by
      rw [e, hy, show (g : Int) * y = -(g : Int) * -y by rw [Int.neg_mul_neg]]
      exact Int.mul_fdiv_cancel_left _ (by omega)
    simp only [ea, eb]
    have yn : y < 0 := by
      rw [hy] at cb
      exact Int.neg_of_mul_neg_right cb (by omega)
    refine ⟨by omega, by simpa using cop, by omega, by omega⟩
  · rw [if_neg cb]
    have ea : a.fdiv (g : Int) = x := by
      rw [hx]
      exact Int.mul_fdiv_cancel_left _ (by omega)
    have eb : b.fdiv (g : Int) = y := by
      rw [hy]
      exact Int.mul_fdiv_cancel_left _ (by omega)
    simp only [ea, eb]
    have yp : 0 < y := by
      have : 0 < b := by omega
      rw [hy] at this
      exact Int.pos_of_mul_pos_right this (by omega)
    refine ⟨yp, cop, by omega, by omega⟩
end Lw

set_option linter.all false
set_option maxRecDepth 100000
set_option maxHeartbeats 2000000
set_option exponentiation.threshold 20000
namespace Lw
open PySem PySem.Spec PyProof.Rows VL
local macro_rules | `(tactic| walk_at "x") => `(tactic| simp only [on1_some, onOI_x, onD_val, onD_own, onB_x, onI_x, onV_val, onV_urn, onV_raw, onV_scr, onO_own, onDs_nil, onDs_cons, onBS_x, on2_x, onL1_x, onL_x, onU_x, onSeq_l, onSeq_t, onStr_x, onZ_l, onZ_t,
  retS_val, retS_own, argS_val, argS_own, argS_urn, argS_raw, argS_scr, frzS_val, frzS_own, frzS_urn, frzS_raw, frzS_scr, frzS_no,
  x_dOf, x_wDats, x_var, x_c, x_r, x_bin, x_ixs, x_tst, x_and, x_or, x_not, x_andV, x_orV, x_notV, x_ifE, x_chain, x_neg, x_nil, x_cons, x_tup, x_lst, x_b, x_m, x_call, x_nop, x_part, x_sl, x_peek, x_peekT, x_ownIx, x_own0, x_ownS,
  x_seq, x_next, x_break, x_cont, x_ret, x_retN, x_retO, x_if, x_raise, x_set, x_setV, x_frz, x_asg, x_gset, x_gnil, x_gcons, x_gtup, x_gsub, x_par, x_aug, x_app, x_ext, x_pop, x_popN, x_urn, x_for, x_while, x_lc, x_yes,
  x_wiSeq, x_rng1, x_rng2, x_wiStr, x_wiEnum, x_wiZip, x_wiRev,
  o_add, o_addS, o_addL, o_addT, o_int, o_cmp, o_eq, o_ixL, o_ixT, o_ixS, o_slL, o_slT, o_slS, o_inS, o_i1, o_i2, o_lenL, o_lenT, o_lenS, o_lenR, o_intI, o_intB, o_str, o_isi, o_list, o_tuple, o_mul, o_mulS, o_isN, non_n, non_b, non_i, non_s, non_l, non_t, ty_n, ty_b, ty_i, ty_s, ty_l, ty_t, o_part, o_split, p_10_3, t_10_3, p_10_6, t_10_6, p_10_12, t_10_12, p_10_18, t_10_18, o_starts,
  kit_nb, kit_ni, kit_ns, kit_nl, kit_nt, kit_bb, kit_bi, kit_bs, kit_bl, kit_bt, kit_ib, kit_ii, kit_is, kit_il, kit_it, kit_sb, kit_si, kit_ss, kit_sl, kit_st, kit_lb, kit_li, kit_ls, kit_ll, kit_lt, kit_tb, kit_ti, kit_ts, kit_tl, kit_tt,
 
  List.getElem?_cons_zero, List.getElem?_cons_succ, List.length_cons, List.length_nil, List.set_cons_zero, List.set_cons_succ, List.map_cons, List.map_nil, Option.map_some, Option.getD_some, wipeS, e_ii, e_ss, e_bb, e_nn, e_ni, e_in, e_ns, e_sn, e_nt, e_tn, e_nl, e_ln, e_is, e_si, e_it, e_ti, e_il, e_li, e_st, e_ts, e_sl, e_ls, e_tl, e_lt, e_tt, e_ll, ea_nil, ea_nc, ea_cn, ea_cc, sh_n, sh_b, sh_i, sh_ii, ok_ss, ok_sn, ok_ns, ok_si, ok_is, ok_ii, ok_ni, ok_in, ok_tt, ok_ll, bt, bf, ndec, at_0, at_1, at_2, at_3, at_4, at_5, at_6, at_7,
  Bool.and_eq_true, Bool.true_and, Bool.and_true, Bool.false_and, Bool.and_false, Bool.not_true, Bool.not_false, ite_not, true_and, and_true, decide_eq_true_eq, if_true, Bool.false_eq_true, if_false, ↓reduceIte, Nat.lt_add_left_iff_pos, Nat.zero_lt_succ])
theorem figs_none_of {z : Str} (h : ¬ (1 ≤ (codes z).length ∧ (codes z).length ≤ 30 ∧ (codes z).all dig = true ∧ ¬ ((codes z).head? = some 48 ∧ 1 < (codes z).length))) : figs z = none := if_neg h
theorem figs_some_of {z : Str} (h1 : 1 ≤ (codes z).length) (h2 : (codes z).length ≤ 30) (h3 : (codes z).all dig = true) (h4 : ¬ ((codes z).head? = some 48 ∧ 1 < (codes z).length)) : figs z = some ((NumText.digitsVal (codes z) : Nat) : Int) := if_pos ⟨h1, h2, h3, h4⟩
theorem int_of_figs {z : Str} (h1 : 1 ≤ (codes z).length) (h2 : (codes z).length ≤ 30) (h3 : (codes z).all dig = true) : intText? z = some ((NumText.digitsVal (codes z) : Nat) : Int) :=
  intText_digits (allDigits h3) (fun e => by unfold codes at h1; rw [e] at h1; cases h1) (by rw [← codes_len]; omega)
theorem lit0 (c : Nat) : ((⟨#[c]⟩ : Str) = ("0" : Str)) ↔ c = 48 := by
  constructor
  · intro h
    have := congrArg codes h
    rw [c_zero] at this
    simpa [codes] using this
  · intro h
    subst h
    exact str_ext c_zero.symm
theorem in_dig {c : Nat} {R : Sl → Prop} (h : R (.val (.bool (dig c)))) : oInS true (.str ⟨#[c]⟩) (.str "0123456789") R := by
  rw [o_inS, mem_digits, bt]; exact h
theorem sem_read_figures (K : PySem.W.Frag) : ∀ (ss : List Sl) (Qv : Sl → Prop) (Ev : EX), ss.length = 1 → F_read_figures K ss Qv Ev → w_read_figures K { nx := fun _ => Qv (.val .none), rt := Qv, ex := Ev } (rho0 N_read_figures ss) := by
  rintro ss Qv Ev - ⟨z, rfl, lz, h⟩
  show w_read_figures K _ [.val (.str z), .no]
  unfold w_read_figures
  walk_at "x"
  refine ⟨lz, ?_⟩
  have cl := codes_len z
  by_cases c1 : 1 ≤ (z.length : Int)
  · rw [if_pos c1]
    unfold k_MOST_FIGURES k_FIGURES
    walk_at "x"
    by_cases c2 : (z.length : Int) ≤ 30
    · rw [if_pos c2]
      refine lcS (n := 0) (A := fun d R => oInS true d (.str "0123456789") R) (fun c => .bool (dig c)) lz (fun i c R _ k => in_dig (k _ rfl)) ?_
      rw [show (z.cps.toList.map fun c => PyData.bool (dig c)) = ((codes z).map dig).map PyData.bool by rw [List.map_map]; rfl, o_all]
      walk_at "x"
      rw [List.all_map, show (id ∘ dig) = dig from rfl]
      by_cases c3 : (codes z).all dig = true
      · rw [c3]
        walk_at "x"
        refine ⟨lz, ?_⟩
        cases hz : codes z with
        | nil => rw [hz] at cl; have : z.length = 0 := cl.symm; omega
        | cons c cs =>
          rw [show z.cps.toList = c :: cs from hz]
          walk_at "x"
          have fin : figs z = some ((NumText.digitsVal (codes z) : Nat) : Int) → (oInt1 [Sl.val (PyData.str z)] fun t => retS t ∧ Qv t) := fun hf => by
            rw [hf] at h
            show (match PySem.intText? z with | some n => z.length ≤ 640 ∧ (retS _ ∧ Qv (.val (.int n))) | none => False)
            rw [int_of_figs (by omega) (by omega) c3]
            exact ⟨by omega, trivial, h⟩
          by_cases c4 : c = 48
          · subst c4
            rw [if_pos ((lit0 48).mpr rfl)]
            refine ⟨lz, ?_⟩
            by_cases c5 : 1 < (z.length : Int)
            · rw [if_pos c5]
              rw [figs_none_of (fun q => q.2.2.2 ⟨by rw [hz]; rfl, by omega⟩)] at h
              exact h
            · rw [if_neg c5]
              exact fin (figs_some_of (by omega) (by omega) c3 (fun q => by omega))
          · rw [if_neg (fun q => c4 ((lit0 c).mp q))]
            exact fin (figs_some_of (by omega) (by omega) c3 (fun q => by rw [hz] at q; exact c4 (by simpa using q.1)))
      · rw [Bool.eq_false_iff.mpr c3]
        walk_at "x"
        rw [figs_none_of (fun q => c3 q.2.2.1)] at h
        exact h
    · rw [if_neg c2]
      rw [figs_none_of (fun q => by omega)] at h
      exact h
  · rw [if_neg c1]
    rw [figs_none_of (fun q => by omega)] at h
    exact h
theorem digits_take (l : List Nat) (i : Nat) (c : Nat) (h : l[i]? = some c) : NumText.digitsVal (l.take (i + 1)) = NumText.digitsVal (l.take i) * 10 + (c - 48) := by
  rw [List.take_add_one, h]
  unfold NumText.digitsVal
  rw [List.foldl_append]; rfl
theorem digits_lt : ∀ (l : List Nat) (i : Nat), l.all dig = true → NumText.digitsVal (l.take i) < 10 ^ i
  | l, 0, _ => by simp [NumText.digitsVal]
  | l, i + 1, h => by
    have ih := digits_lt l i h
    cases hc : l[i]? with
    | none =>
      rw [List.take_of_length_le (by have := List.getElem?_eq_none_iff.mp hc; omega)]
      rw [List.take_of_length_le (by have := List.getElem?_eq_none_iff.mp hc; omega)] at ih
      rw [Nat.pow_succ]; omega
    | some c =>
      rw [digits_take l i c hc]
      have := of_decide_eq_true (List.all_eq_true.mp h c (List.mem_of_getElem? hc))
      rw [Nat.pow_succ]; omega
theorem sem_law_figures (K : PySem.W.Frag) : ∀ (ss : List Sl) (Qv : Sl → Prop) (Ev : EX), ss.length = 1 → F_law_figures K ss Qv Ev → w_law_figures K { nx := fun _ => Qv (.val .none), rt := Qv, ex := Ev } (rho0 N_law_figures ss) := by
  rintro ss Qv Ev - ⟨z, rfl, lz, h⟩
  show w_law_figures K _ [.val (.str z), .no, .no]
  unfold w_law_figures
  walk_at "x"
  have cl := codes_len z
  by_cases c0 : z = ""
  · rw [if_pos c0]
    subst c0
    rw [figs_none_of (fun q => by have := q.1; rw [c_empty] at this; cases this)] at h
    exact h
  rw [if_neg c0]
  refine ⟨lz, ?_⟩
  by_cases c2 : (30 : Int) < z.length
  · rw [if_pos c2]
    rw [figs_none_of (fun q => by omega)] at h
    exact h
  rw [if_neg c2]
  refine lcS (n := 0) (A := fun d R => oInS true d (.str "0123456789") R) (fun c => .bool (dig c)) lz (fun i c R _ k => in_dig (k _ rfl)) ?_
  rw [show (z.cps.toList.map fun c => PyData.bool (dig c)) = ((codes z).map dig).map PyData.bool by rw [List.map_map]; rfl, o_all]
  walk_at "x"
  rw [List.all_map, show (id ∘ dig) = dig from rfl]
  by_cases c3 : ¬ (codes z).all dig = true
  case pos =>
    rw [Bool.eq_false_iff.mpr c3]
    walk_at "x"
    rw [figs_none_of (fun q => c3 q.2.2.1)] at h
    exact h
  have c3 := Classical.not_not.mp c3
  rw [c3]
  walk_at "x"
  refine ⟨lz, ?_⟩
  have loop : figs z = some ((NumText.digitsVal (codes z) : Nat) : Int) → wFor (wiStr (wVar 0)) (gwSet 1) (wSetV 2 (wBin oAdd (wBin oMul (wVar 2) (wC (.int 10))) (wM "str" oIndexS (wC (.str "0123456789")) (wConsA (wVar 1) wNil))))
      { nx := wRet (wVar 2) { nx := fun _ => Qv (Sl.val PyData.none), rt := Qv, ex := Ev }, rt := Qv, ex := Ev } [Sl.val (PyData.str z), Sl.no, Sl.val (PyData.int 0)] := fun hf => by
    rw [hf] at h
    walk_at "x"
    refine ⟨fun i ρ => ∃ s, ρ = [Sl.val (PyData.str z), s, Sl.val (.int (NumText.digitsVal ((codes z).take i) : Nat))], ⟨_, rfl⟩, fun i d ρ hd hi => ?_, fun ρ hi => ?_⟩
    · obtain ⟨s, rfl⟩ := hi
      rw [List.getElem?_map] at hd
      cases hc : z.cps.toList[i]? with
      | none => rw [hc] at hd; cases hd
      | some c =>
        rw [hc] at hd
        cases hd
        have dc : dig c = true := List.all_eq_true.mp c3 c (List.mem_of_getElem? hc)
        obtain ⟨rest, hx⟩ := index_digits dc
        have il : i < (codes z).length := (List.getElem?_eq_some_iff.mp hc).1
        have dl := digits_lt (codes z) i c3
        have pw : 10 ^ i ≤ 10 ^ 30 := Nat.pow_le_pow_right (by decide) (by omega)
        walk_at "x"
        refine ⟨?_, ?_⟩
        · unfold mulOk
          have : (NumText.digitsVal ((codes z).take i) : Int).natAbs.log2 < 1100 := log_of (by
            have : (10 : Nat) ^ 30 < 10 ^ 300 := by decide +kernel
            omega)
          have : (10 : Int).natAbs.log2 < 100 := by decide
          omega
        · show (match Builtin.Str.occurrences ("0123456789" : Str) ⟨#[c]⟩ 0 ("0123456789" : Str).length 1 with | i :: _ => _ | [] => False)
          rw [hx]
          show onD _ (Sl.val (.int ((c - 48 : Nat) : Int)))
          walk_at "x"
          refine ⟨.val (.str ⟨#[c]⟩), ?_⟩
          rw [digits_take (codes z) i c hc]
          simp
    · obtain ⟨s, rfl⟩ := hi
      walk_at "x"
      rw [List.length_map]
      rw [show (codes z).take z.cps.toList.length = codes z from List.take_length]
      exact h
  cases hz : codes z with
  | nil => exact absurd (str_ext (hz.trans c_empty.symm)) c0
  | cons c cs =>
    have ln : 1 ≤ (codes z).length := by rw [hz]; simp
    have at0 : L2.atI z.cps.toList 0 = some c := by rw [show z.cps.toList = c :: cs from hz, at_0]
    simp only [at0]
    by_cases c4 : c = 48
    · subst c4
      rw [if_pos ((lit0 48).mpr rfl)]
      by_cases c5 : z = "0"
      · rw [if_pos c5]
        refine loop (figs_some_of ln (by omega) c3 (fun q => ?_))
        rw [c5, c_zero] at q
        exact absurd q.2 (by decide)
      · rw [if_neg c5]
        rw [figs_none_of (fun q => q.2.2.2 ⟨by rw [hz]; rfl, ?_⟩)] at h
        · exact h
        · rw [hz]
          cases cs with
          | nil => exact absurd (str_ext (hz.trans c_zero.symm)) c5
          | cons _ _ => simp
    · rw [if_neg (fun q => c4 ((lit0 c).mp q))]
      exact loop (figs_some_of ln (by omega) c3 (fun q => by rw [hz] at q; exact c4 (by simpa using q.1)))
end Lw

set_option linter.all false
set_option maxRecDepth 100000
set_option maxHeartbeats 2000000
set_option exponentiation.threshold 20000
namespace Lw
open PySem PySem.Spec PyProof.Rows VL
local macro_rules | `(tactic| walk_at "x") => `(tactic| simp only [on1_some, onOI_x, onD_val, onD_own, onB_x, onI_x, onV_val, onV_urn, onV_raw, onV_scr, onO_own, onDs_nil, onDs_cons, onBS_x, on2_x, onL1_x, onL_x, onU_x, onSeq_l, onSeq_t, onStr_x, onZ_l, onZ_t,
  retS_val, retS_own, argS_val, argS_own, argS_urn, argS_raw, argS_scr, frzS_val, frzS_own, frzS_urn, frzS_raw, frzS_scr, frzS_no,
  x_dOf, x_wDats, x_var, x_c, x_r, x_bin, x_ixs, x_tst, x_and, x_or, x_not, x_andV, x_orV, x_notV, x_ifE, x_chain, x_neg, x_nil, x_cons, x_tup, x_lst, x_b, x_m, x_call, x_nop, x_part, x_sl, x_peek, x_peekT, x_ownIx, x_own0, x_ownS,
  x_seq, x_next, x_break, x_cont, x_ret, x_retN, x_retO, x_if, x_raise, x_set, x_setV, x_frz, x_asg, x_gset, x_gnil, x_gcons, x_gtup, x_gsub, x_par, x_aug, x_app, x_ext, x_pop, x_popN, x_urn, x_for, x_while, x_lc, x_yes,
  x_wiSeq, x_rng1, x_rng2, x_wiStr, x_wiEnum, x_wiZip, x_wiRev,
  o_add, o_addS, o_addL, o_addT, o_int, o_cmp, o_eq, o_ixL, o_ixT, o_ixS, o_slL, o_slT, o_slS, o_inS, o_i1, o_i2, o_lenL, o_lenT, o_lenS, o_lenR, o_intI, o_intB, o_str, o_isi, o_list, o_tuple, o_mul, o_mulS, o_isN, non_n, non_b, non_i, non_s, non_l, non_t, ty_n, ty_b, ty_i, ty_s, ty_l, ty_t, o_part, o_split, p_10_3, t_10_3, p_10_6, t_10_6, p_10_12, t_10_12, p_10_18, t_10_18, o_starts,
  kit_nb, kit_ni, kit_ns, kit_nl, kit_nt, kit_bb, kit_bi, kit_bs, kit_bl, kit_bt, kit_ib, kit_ii, kit_is, kit_il, kit_it, kit_sb, kit_si, kit_ss, kit_sl, kit_st, kit_lb, kit_li, kit_ls, kit_ll, kit_lt, kit_tb, kit_ti, kit_ts, kit_tl, kit_tt,
 
  List.getElem?_cons_zero, List.getElem?_cons_succ, List.length_cons, List.length_nil, List.set_cons_zero, List.set_cons_succ, List.map_cons, List.map_nil, Option.map_some, Option.getD_some, wipeS, e_ii, e_ss, e_bb, e_nn, e_ni, e_in, e_ns, e_sn, e_nt, e_tn, e_nl, e_ln, e_is, e_si, e_it, e_ti, e_il, e_li, e_st, e_ts, e_sl, e_ls, e_tl, e_lt, e_tt, e_ll, ea_nil, ea_nc, ea_cn, ea_cc, sh_n, sh_b, sh_i, sh_ii, ok_ss, ok_sn, ok_ns, ok_si, ok_is, ok_ii, ok_ni, ok_in, ok_tt, ok_ll, bt, bf, ndec, at_0, at_1, at_2, at_3, at_4, at_5, at_6, at_7,
  Bool.and_eq_true, Bool.true_and, Bool.and_true, Bool.false_and, Bool.and_false, Bool.not_true, Bool.not_false, ite_not, true_and, and_true, decide_eq_true_eq, if_true, Bool.false_eq_true, if_false, ↓reduceIte, Nat.lt_add_left_iff_pos, Nat.zero_lt_succ])
theorem sem_read_top (K : PySem.W.Frag) : ∀ (ss : List Sl) (Qv : Sl → Prop) (Ev : EX), ss.length = 1 → F_read_top K ss Qv Ev → w_read_top K { nx := fun _ => Qv (.val .none), rt := Qv, ex := Ev } (rho0 N_read_top ss) := by
  rintro ss Qv Ev - ⟨z, rfl, lz, h⟩
  show w_read_top K _ [.val (.str z), .no]
  unfold w_read_top
  walk_at "x"
  refine ⟨lz, ?_⟩
  unfold readTop at h
  by_cases c : (codes z).head? = some 45
  · rw [if_pos c] at h
    rw [if_pos ((cut_head_eq z).mpr c)]
    refine ⟨lz, _, rfl, Nat.le_trans (by rw [cut_tail]; exact tail_len z) lz, ?_⟩
    rw [cut_tail]
    cases hf : figs (tailS z) with
    | none => rw [hf] at h; exact h
    | some n =>
      rw [hf] at h
      walk_at "x"
      by_cases c0 : n = 0
      · rw [if_pos c0]
        simp only [c0, if_true] at h
        exact h
      · rw [if_neg c0]
        simp only [c0, if_false] at h
        have : (0 - n) = -n := by omega
        rw [this]; exact h
  · rw [if_neg c] at h
    rw [if_neg (fun q => c ((cut_head_eq z).mp q))]
    refine ⟨z, rfl, lz, ?_⟩
    cases hf : figs z with
    | none => rw [hf] at h; exact h
    | some n => rw [hf] at h; exact ⟨trivial, h⟩
theorem readD_non {d : D} (h : tyD d ≠ "str") : readD d = none := by
  cases d with
  | str z => exact absurd rfl h
  | _ => rfl
theorem kit_non {d : D} (h : tyD d ≠ "str") : L2.kitB (tyD d) "str" = some false := by
  cases d with
  | str z => exact absurd rfl h
  | none => exact kit_ns
  | bool _ => exact kit_bs
  | int _ => exact kit_is
  | list _ => exact kit_ls
  | tuple _ => exact kit_ts
  | dict _ => exact (by decide +kernel : L2.kitB "dict" "str" = some false)
theorem part_len (z : Str) : (Txt.partition z "/").1.length ≤ z.length ∧ (Txt.partition z "/").2.2.length ≤ z.length ∧ (Txt.partition z "/").2.1.length ≤ z.length := by
  have := congrArg Str.length (StrLaws.partition_sum z "/")
  rw [len_app, len_app] at this
  omega
theorem sem_read_number (K : PySem.W.Frag) : ∀ (ss : List Sl) (Qv : Sl → Prop) (Ev : EX), ss.length = 1 → F_read_number K ss Qv Ev → w_read_number K { nx := fun _ => Qv (.val .none), rt := Qv, ex := Ev } (rho0 N_read_number ss) := by
  rintro ss Qv Ev - ⟨d, rfl, lz, h⟩
  show w_read_number K _ [.val d, .no, .no, .no, .no, .no]
  unfold w_read_number
  walk_at "x"
  by_cases hd : tyD d = "str"
  case neg =>
    rw [kit_non hd]
    rw [readD_non hd] at h
    walk_at "x"
    exact h
  cases d with
  | str z =>
    have h : (match readN z with | some (a, b) => Qv (Sl.val (PyData.tuple [PyData.int a, PyData.int b])) | none => Ev (noText K)) := h
    have lz : z.length ≤ sizeLine := lz
    obtain ⟨p1, p2, p3⟩ := part_len z
    unfold readN at h
    walk_at "x"
    refine ⟨by decide +kernel, lz, ?_⟩
    generalize Txt.partition z "/" = P at *
    obtain ⟨x, y, w⟩ := P
    simp only at p1 p2 p3 h
    refine ⟨x, rfl, by omega, ?_⟩
    cases hx : readTop x with
    | none => rw [hx] at h; exact h
    | some a =>
      rw [hx] at h
      walk_at "x"
      by_cases cy : y = ""
      · simp only [cy, if_true] at h
        rw [if_pos cy]
        exact ⟨by decide, h⟩
      · simp only [cy, if_false] at h
        rw [if_neg cy]
        refine ⟨w, rfl, by omega, ?_⟩
        cases hw : figs w with
        | none => rw [hw] at h; exact h
        | some b =>
          rw [hw] at h
          walk_at "x"
          simp only at h
          by_cases cb : b < 2
          · rw [if_pos cb]
            rw [if_pos (Or.inl cb)] at h
            exact h
          · rw [if_neg cb]
            refine ⟨a, b, rfl, ?_⟩
            walk_at "x"
            by_cases cg : ((Int.gcd a b : Nat) : Int) = 1
            · rw [if_pos cg]
              rw [if_neg (by rintro (q | q); exact cb q; exact q cg)] at h
              exact ⟨by decide, h⟩
            · rw [if_neg cg]
              rw [if_pos (Or.inr cg)] at h
              exact h
  | none => exact absurd (show ("NoneType" : String) = "str" from hd) (by decide)
  | bool _ => exact absurd (show ("bool" : String) = "str" from hd) (by decide)
  | int _ => exact absurd (show ("int" : String) = "str" from hd) (by decide)
  | list _ => exact absurd (show ("list" : String) = "str" from hd) (by decide)
  | tuple _ => exact absurd (show ("tuple" : String) = "str" from hd) (by decide)
  | dict _ => exact absurd (show ("dict" : String) = "str" from hd) (by decide)
theorem sem_law_whole (K : PySem.W.Frag) : ∀ (ss : List Sl) (Qv : Sl → Prop) (Ev : EX), ss.length = 1 → F_law_whole K ss Qv Ev → w_law_whole K { nx := fun _ => Qv (.val .none), rt := Qv, ex := Ev } (rho0 N_law_whole ss) := by
  rintro ss Qv Ev - ⟨d, rfl, h⟩
  show w_law_whole K _ [.val d]
  unfold w_law_whole
  cases d with
  | dict _ =>
    walk_at "x"
    show (match L2.kitB "dict" "int" with | some c => _ | none => False)
    rw [(by decide +kernel : L2.kitB "dict" "int" = some false)]
    exact h
  | _ => walk_at "x"; exact h
theorem low_fix (a : Int) {b : Int} (c : 0 < b) : (decide ((lowN a b).1 = a) && decide ((lowN a b).2 = b)) = decide (Int.gcd a b = 1) := by
  unfold lowN
  rw [if_neg (by omega)]
  by_cases g : Int.gcd a b = 1
  · rw [g]; simp
  · rw [decide_eq_false g, Bool.and_eq_false_iff]
    right
    refine decide_eq_false (fun q => ?_)
    have g0 := gcd_pos' a (show b ≠ 0 by omega)
    have db : ((Int.gcd a b : Nat) : Int) ∣ b := Int.gcd_dvd_right a b
    obtain ⟨y, hy⟩ := db
    simp only at q
    generalize Int.gcd a b = n at *
    rw [hy, Int.mul_fdiv_cancel_left _ (by omega)] at q
    have : y * ((n : Int) - 1) = 0 := by rw [Int.mul_sub, Int.mul_one, Int.mul_comm]; omega
    rcases Int.mul_eq_zero.mp this with z | z
    · subst z; omega
    · omega
theorem low_iff (a : Int) {b : Int} (c : 0 < b) : ((lowN a b).1 = a ∧ (lowN a b).2 = b) ↔ Int.gcd a b = 1 := by
  have := low_fix a c
  rw [← decide_eq_true_iff (p := Int.gcd a b = 1), ← this, Bool.and_eq_true, decide_eq_true_iff, decide_eq_true_iff]
theorem figs_lt {z : Str} {n : Int} (h : figs z = some n) : 0 ≤ n ∧ n.natAbs < 10 ^ 30 := by
  unfold figs at h
  split at h
  · rename_i c
    cases h
    have := digits_lt (codes z) (codes z).length c.2.2.1
    rw [List.take_length] at this
    have : 10 ^ (codes z).length ≤ 10 ^ 30 := Nat.pow_le_pow_right (by decide) c.2.1
    omega
  · cases h
theorem small30 {n : Nat} (h : n < 10 ^ 30) : n < 10 ^ 300 := Nat.lt_of_lt_of_le h (by decide +kernel)
theorem mul30 {n : Int} (h : n.natAbs < 10 ^ 30) : mulOk n (-1) := by
  unfold mulOk
  have := log_of (small30 h)
  have : (-1 : Int).natAbs.log2 < 100 := by decide
  omega
theorem mul30' {n : Int} (h : n.natAbs < 10 ^ 30) : mulOk n 1 := by
  unfold mulOk
  have := log_of (small30 h)
  have : (1 : Int).natAbs.log2 < 100 := by decide
  omega
theorem low_tail (K : PySem.W.Frag) {t b : Int} {R : D → Prop} {Ev : EX} (hb : 0 < b) (lt : t.natAbs < 10 ^ 300) (lb : b.natAbs < 10 ^ 300) (h : R (if Int.gcd t b = 1 then .tuple [.int t, .int b] else .none)) :
    F_law_low K [Sl.val (.int t), Sl.val (.int b)] (onD fun d => okE d (.tuple [.int t, .int b]) ∧ if PyData.eqv d (.tuple [.int t, .int b]) = true then R (.tuple [.int t, .int b]) else R .none) Ev := by
  refine ⟨t, b, rfl, by omega, lt, lb, ?_⟩
  walk_at "x"
  by_cases g : Int.gcd t b = 1
  · rw [if_pos g] at h
    rw [if_pos ((low_iff t hb).mpr g)]
    exact h
  · rw [if_neg g] at h
    rw [if_neg (fun q => g ((low_iff t hb).mp q))]
    exact h
theorem sem_law_read_number (K : PySem.W.Frag) : ∀ (ss : List Sl) (Qv : Sl → Prop) (Ev : EX), ss.length = 1 → F_law_read_number K ss Qv Ev → w_law_read_number K { nx := fun _ => Qv (.val .none), rt := Qv, ex := Ev } (rho0 N_law_read_number ss) := by
  rintro ss Qv Ev - ⟨z, rfl, lz, h⟩
  show w_law_read_number K _ [.val (.str z), .no, .no, .no, .no, .no, .no, .no]
  unfold w_law_read_number
  obtain ⟨p1, p2, p3⟩ := part_len z
  unfold readN at h
  walk_at "x"
  refine ⟨by decide +kernel, lz, ?_⟩
  generalize Txt.partition z "/" = P at *
  obtain ⟨x, y, w⟩ := P
  simp only at p1 p2 p3 h
  dsimp only
  refine ⟨by omega, by omega, ?_⟩
  -- what comes behind the two whole numbers
  by_cases c : (codes x).head? = some 45
  · simp only [eq_true ((cut_head_eq x).mpr c), if_true]
    refine ⟨_, rfl, by rw [cut_tail]; exact Nat.le_trans (tail_len x) (by omega), ?_⟩
    rw [cut_tail]
    unfold readTop at h
    rw [if_pos c] at h
    cases hf : figs (tailS x) with
    | none =>
      rw [hf] at h
      simp only at h
      by_cases cy : y = ""
      · simp only [eq_true cy, if_true]
        walk_at "x"
        exact h
      · simp only [eq_false cy, if_false]
        walk_at "x"
        refine ⟨w, rfl, by omega, ?_⟩
        walk_at "x"
        exact h
    | some n =>
      rw [hf] at h
      simp only at h
      obtain ⟨n0, n1⟩ := figs_lt hf
      by_cases cy : y = ""
      · simp only [eq_true cy, if_true] at h ⊢
        walk_at "x"
        by_cases c0 : n = 0
        · simp only [eq_true c0, if_true] at h ⊢
          exact h
        · simp only [eq_false c0, if_false] at h ⊢
          refine ⟨by decide, mul30 n1, by decide, low_tail K (R := fun d => Qv (.val d)) (by decide) (by rw [Int.natAbs_mul]; simpa using small30 n1) (by decide +kernel) ?_⟩
          rw [if_pos (by simp), Int.mul_neg_one]
          exact h
      · simp only [eq_false cy, if_false] at h ⊢
        walk_at "x"
        refine ⟨w, rfl, by omega, ?_⟩
        cases hw : figs w with
        | none =>
          walk_at "x"
          rw [hw] at h
          by_cases c0 : n = 0
          · simp only [eq_true c0, if_true] at h ⊢
            exact h
          · simp only [eq_false c0, if_false] at h ⊢
            exact h
        | some b =>
          walk_at "x"
          rw [hw] at h
          obtain ⟨b0, b1⟩ := figs_lt hw
          by_cases c0 : n = 0
          · simp only [eq_true c0, if_true] at h ⊢
            simp only [ite_self]
            exact h
          · simp only [eq_false c0, if_false] at h ⊢
            by_cases cb : b < 2
            · rw [if_pos (Or.inl cb)] at h
              have : b = 0 ∨ b = 1 := by omega
              rcases this with rfl | rfl
              · exact h
              · exact h
            · rw [if_neg (by omega), if_neg (by omega)]
              refine ⟨by decide, mul30 n1, by decide, low_tail K (R := fun d => Qv (.val d)) (by omega) (by rw [Int.natAbs_mul]; simpa using small30 n1) (small30 b1) ?_⟩
              rw [Int.mul_neg_one]
              by_cases g : Int.gcd (-n) b = 1
              · rw [if_pos g]
                rw [if_neg (by omega)] at h
                exact h
              · rw [if_neg g]
                rw [if_pos (by omega)] at h
                exact h
  · simp only [eq_false (fun q => c ((cut_head_eq x).mp q)), if_false]
    rw [cut_all]
    refine ⟨x, rfl, by omega, ?_⟩
    unfold readTop at h
    rw [if_neg c] at h
    cases hf : figs x with
    | none =>
      rw [hf] at h
      simp only at h
      by_cases cy : y = ""
      · simp only [eq_true cy, if_true]
        walk_at "x"
        exact h
      · simp only [eq_false cy, if_false]
        walk_at "x"
        refine ⟨w, rfl, by omega, ?_⟩
        walk_at "x"
        exact h
    | some n =>
      rw [hf] at h
      simp only at h
      obtain ⟨n0, n1⟩ := figs_lt hf
      by_cases cy : y = ""
      · simp only [eq_true cy, if_true] at h ⊢
        walk_at "x"
        rw [if_neg (by decide)]
        refine ⟨by decide, mul30' n1, by decide, low_tail K (R := fun d => Qv (.val d)) (by decide) (by rw [Int.mul_one]; exact small30 n1) (by decide +kernel) ?_⟩
        rw [if_pos (by simp), Int.mul_one]
        exact h
      · simp only [eq_false cy, if_false] at h ⊢
        walk_at "x"
        refine ⟨w, rfl, by omega, ?_⟩
        cases hw : figs w with
        | none =>
          walk_at "x"
          rw [hw] at h
          exact h
        | some b =>
          walk_at "x"
          rw [hw] at h
          obtain ⟨b0, b1⟩ := figs_lt hw
          simp only at h
          by_cases cb : b < 2
          · rw [if_pos (Or.inl cb)] at h
            have : b = 0 ∨ b = 1 := by omega
            rcases this with rfl | rfl
            · exact h
            · exact h
          · rw [if_neg (by omega), if_neg (by omega)]
            refine ⟨by decide, mul30' n1, by decide, low_tail K (R := fun d => Qv (.val d)) (by omega) (by rw [Int.mul_one]; exact small30 n1) (small30 b1) ?_⟩
            rw [Int.mul_one]
            by_cases g : Int.gcd n b = 1
            · rw [if_pos g]
              rw [if_neg (by omega)] at h
              exact h
            · rw [if_neg g]
              rw [if_pos (by omega)] at h
              exact h
theorem sem_law_is_number (K : PySem.W.Frag) : ∀ (ss : List Sl) (Qv : Sl → Prop) (Ev : EX), ss.length = 1 → F_law_is_number K ss Qv Ev → w_law_is_number K { nx := fun _ => Qv (.val .none), rt := Qv, ex := Ev } (rho0 N_law_is_number ss) := by
  rintro ss Qv Ev - ⟨a, b, rfl, la, lb, h⟩
  show w_law_is_number K _ [.val (.tuple [.int a, .int b])]
  unfold w_law_is_number
  walk_at "x"
  refine ⟨_, rfl, ?_⟩
  rw [show isI (.int a) = true from rfl]
  walk_at "x"
  refine ⟨_, rfl, ?_⟩
  rw [show isI (.int b) = true from rfl]
  walk_at "x"
  by_cases c : 0 < b
  · rw [if_pos c]
    refine ⟨a, b, rfl, by omega, la, lb, ?_⟩
    walk_at "x"
    rw [low_fix a c]
    rw [decide_eq_true c, Bool.true_and] at h
    exact h
  · rw [if_neg c]
    rw [decide_eq_false c] at h
    exact h
end Lw

set_option linter.all false
set_option maxRecDepth 100000
set_option maxHeartbeats 2000000
set_option exponentiation.threshold 20000
namespace Lw
open PySem PySem.Spec PyProof.Rows VL
local macro_rules | `(tactic| walk_at "x") => `(tactic| simp only [on1_some, onOI_x, onD_val, onD_own, onB_x, onI_x, onV_val, onV_urn, onV_raw, onV_scr, onO_own, onDs_nil, onDs_cons, onBS_x, on2_x, onL1_x, onL_x, onU_x, onSeq_l, onSeq_t, onStr_x, onZ_l, onZ_t,
  retS_val, retS_own, argS_val, argS_own, argS_urn, argS_raw, argS_scr, frzS_val, frzS_own, frzS_urn, frzS_raw, frzS_scr, frzS_no,
  x_dOf, x_wDats, x_var, x_c, x_r, x_bin, x_ixs, x_tst, x_and, x_or, x_not, x_andV, x_orV, x_notV, x_ifE, x_chain, x_neg, x_nil, x_cons, x_tup, x_lst, x_b, x_m, x_call, x_nop, x_part, x_sl, x_peek, x_peekT, x_ownIx, x_own0, x_ownS,
  x_seq, x_next, x_break, x_cont, x_ret, x_retN, x_retO, x_if, x_raise, x_set, x_setV, x_frz, x_asg, x_gset, x_gnil, x_gcons, x_gtup, x_gsub, x_par, x_aug, x_app, x_ext, x_pop, x_popN, x_urn, x_for, x_while, x_lc, x_yes,
  x_wiSeq, x_rng1, x_rng2, x_wiStr, x_wiEnum, x_wiZip, x_wiRev,
  o_add, o_addS, o_addL, o_addT, o_int, o_cmp, o_eq, o_ixL, o_ixT, o_ixS, o_slL, o_slT, o_slS, o_inS, o_i1, o_i2, o_lenL, o_lenT, o_lenS, o_lenR, o_intI, o_intB, o_str, o_isi, o_list, o_tuple, o_mul, o_mulS, o_isN, non_n, non_b, non_i, non_s, non_l, non_t, ty_n, ty_b, ty_i, ty_s, ty_l, ty_t, o_part, o_split, p_10_3, t_10_3, p_10_6, t_10_6, p_10_12, t_10_12, p_10_18, t_10_18, o_starts,
  kit_nb, kit_ni, kit_ns, kit_nl, kit_nt, kit_bb, kit_bi, kit_bs, kit_bl, kit_bt, kit_ib, kit_ii, kit_is, kit_il, kit_it, kit_sb, kit_si, kit_ss, kit_sl, kit_st, kit_lb, kit_li, kit_ls, kit_ll, kit_lt, kit_tb, kit_ti, kit_ts, kit_tl, kit_tt,
 
  List.getElem?_cons_zero, List.getElem?_cons_succ, List.length_cons, List.length_nil, List.set_cons_zero, List.set_cons_succ, List.map_cons, List.map_nil, Option.map_some, Option.getD_some, wipeS, e_ii, e_ss, e_bb, e_nn, e_ni, e_in, e_ns, e_sn, e_nt, e_tn, e_nl, e_ln, e_is, e_si, e_it, e_ti, e_il, e_li, e_st, e_ts, e_sl, e_ls, e_tl, e_lt, e_tt, e_ll, ea_nil, ea_nc, ea_cn, ea_cc, sh_n, sh_b, sh_i, sh_ii, ok_ss, ok_sn, ok_ns, ok_si, ok_is, ok_ii, ok_ni, ok_in, ok_tt, ok_ll, bt, bf, ndec, at_0, at_1, at_2, at_3, at_4, at_5, at_6, at_7,
  Bool.and_eq_true, Bool.true_and, Bool.and_true, Bool.false_and, Bool.and_false, Bool.not_true, Bool.not_false, ite_not, true_and, and_true, decide_eq_true_eq, if_true, Bool.false_eq_true, if_false, ↓reduceIte, Nat.lt_add_left_iff_pos, Nat.zero_lt_succ])
theorem draw_ok (K : PySem.W.Frag) {n : Int} {Q : Sl → Prop} {E : EX} (h0 : 0 < n) (h1 : n < 1073741824) (h : ∀ d : Int, 0 ≤ d → d < n → Q (.val (.int d))) : F_law_draw K [.urn, .val (.int n)] Q E := ⟨n, rfl, h0, h1, h⟩
theorem at_of {α : Type} (xs : List α) {i : Int} (h0 : 0 ≤ i) (h1 : i < xs.length) : ∃ x, L2.atI xs i = some x ∧ x ∈ xs := by
  obtain ⟨n, rfl⟩ : ∃ n : Nat, i = n := ⟨i.toNat, by omega⟩
  rw [at_nat]
  have hn : n < xs.length := by omega
  exact ⟨xs[n], List.getElem?_eq_getElem hn, List.getElem_mem hn⟩
theorem log_small {a : Int} {k : Nat} (hk : 0 < k) (h : a.natAbs < 2 ^ k) : a.natAbs.log2 < k := by
  by_cases z : a.natAbs = 0
  · rw [z]; simpa using hk
  · exact (Nat.log2_lt z).mpr h
theorem mul_small {i j : Int} (k : Nat) (hk : 0 < k) (hk2 : k < 10000000) (h : i.natAbs < 2 ^ k) (h2 : j.natAbs < 2 ^ k) : mulOk i j := by
  unfold mulOk
  have := log_small hk h
  have := log_small hk h2
  omega
theorem sem_law_urn (K : PySem.W.Frag) : ∀ (ss : List Sl) (Qv : Sl → Prop) (Ev : EX), ss.length = 2 → F_law_urn K ss Qv Ev → w_law_urn K { nx := fun _ => Qv (.val .none), rt := Qv, ex := Ev } (rho0 N_law_urn ss) := by
  rintro ss Qv Ev - ⟨ns, i, rfl, i0, i1, h⟩
  show w_law_urn K _ [.scr ns, .val (.int i), .no, .no, .no]
  unfold w_law_urn
  -- the prime of the place
  obtain ⟨m1, m2, m3⟩ := fmod_pos i (y := 8) (by decide)
  have pr : ∀ v : D, v ∈ [PyData.int 1899999979, PyData.int 1899998977, PyData.int 1899997949, PyData.int 1899996929, PyData.int 1899995927, PyData.int 1899994903, PyData.int 1899993877, PyData.int 1899992839] → ∃ q : Int, v = .int q ∧ 0 < q ∧ q < 2147483648 := by
    intro v hv
    simp only [List.mem_cons, List.not_mem_nil, or_false] at hv
    rcases hv with rfl | rfl | rfl | rfl | rfl | rfl | rfl | rfl <;> exact ⟨_, rfl, by decide, by decide⟩
  obtain ⟨v, hv, hm⟩ := at_of [PyData.int 1899999979, PyData.int 1899998977, PyData.int 1899997949, PyData.int 1899996929, PyData.int 1899995927, PyData.int 1899994903, PyData.int 1899993877, PyData.int 1899992839] m1 m2
  obtain ⟨q, rfl, q0, q1⟩ := pr v hm
  have fin : ∀ n g : Int, 0 ≤ g → q ≠ 0 ∧ mulOk 65537 i ∧ L2.CPow (n.fmod q + 65537 * i + 101) 3 ∧ q ≠ 0 ∧ 0 + 1 + 1 + 1 ≤ sizeLine ∧ Qv (.own 1 (.list [.int g, .int (((n.fmod q + 65537 * i + 101) ^ Int.toNat 3).fmod q), .int q])) := fun n g hg => by
    obtain ⟨a1, a2, _⟩ := fmod_pos n q0
    refine ⟨by omega, mul_small 40 (by decide) (by decide) (by decide) (by omega), ⟨by decide, by decide, ?_⟩, by omega, by decide, h _ _ _ ?_⟩
    · omega
    · obtain ⟨b1, b2, _⟩ := fmod_pos ((n.fmod q + 65537 * i + 101) ^ Int.toNat 3) q0
      exact ⟨hg, b1, by omega, q0, q1⟩
  walk_at "x"
  rw [hv]
  by_cases c : i < ns.length
  · rw [if_pos c]
    obtain ⟨n, hn, _⟩ := at_of ns i0 c
    rw [hn]
    walk_at "x"
    refine ⟨by decide, by decide, ?_⟩
    by_cases c2 : 1000000000000000000 ≤ if n < 0 then -n else n
    · rw [if_pos c2]
      exact fin n _ (by split <;> omega)
    · rw [if_neg c2]
      exact fin n _ (by decide)
  · rw [if_neg c]
    walk_at "x"
    refine ⟨by decide, by decide, ?_⟩
    exact fin 0 _ (by decide)
theorem sem_law_kind (K : PySem.W.Frag) : ∀ (ss : List Sl) (Qv : Sl → Prop) (Ev : EX), ss.length = 1 → F_law_kind K ss Qv Ev → w_law_kind K { nx := fun _ => Qv (.val .none), rt := Qv, ex := Ev } (rho0 N_law_kind ss) := by
  rintro ss Qv Ev - ⟨rfl, h⟩
  show w_law_kind K _ [.urn]
  unfold w_law_kind
  walk_at "x"
  refine ⟨by decide, draw_ok K (by decide) (by decide) fun d d0 d1 => ?_⟩
  walk_at "x"
  obtain ⟨v, hv, hm⟩ := at_of [PyData.int 0, PyData.int 1, PyData.int 0, PyData.int 1, PyData.int 0, PyData.int 1, PyData.int 0, PyData.int 2] d0 d1
  rw [hv]
  simp only [List.mem_cons, List.not_mem_nil, or_false] at hm
  rcases hm with rfl | rfl | rfl | rfl | rfl | rfl | rfl | rfl <;> exact h _ (by decide) (by decide)
end Lw

set_option linter.all false
set_option maxRecDepth 100000
set_option maxHeartbeats 2000000
set_option exponentiation.threshold 20000
namespace Lw
open PySem PySem.Spec PyProof.Rows VL
local macro_rules | `(tactic| walk_at "x") => `(tactic| simp only [on1_some, onOI_x, onD_val, onD_own, onB_x, onI_x, onV_val, onV_urn, onV_raw, onV_scr, onO_own, onDs_nil, onDs_cons, onBS_x, on2_x, onL1_x, onL_x, onU_x, onSeq_l, onSeq_t, onStr_x, onZ_l, onZ_t,
  retS_val, retS_own, argS_val, argS_own, argS_urn, argS_raw, argS_scr, frzS_val, frzS_own, frzS_urn, frzS_raw, frzS_scr, frzS_no,
  x_dOf, x_wDats, x_var, x_c, x_r, x_bin, x_ixs, x_tst, x_and, x_or, x_not, x_andV, x_orV, x_notV, x_ifE, x_chain, x_neg, x_nil, x_cons, x_tup, x_lst, x_b, x_m, x_call, x_nop, x_part, x_sl, x_peek, x_peekT, x_ownIx, x_own0, x_ownS,
  x_seq, x_next, x_break, x_cont, x_ret, x_retN, x_retO, x_if, x_raise, x_set, x_setV, x_frz, x_asg, x_gset, x_gnil, x_gcons, x_gtup, x_gsub, x_par, x_aug, x_app, x_ext, x_pop, x_popN, x_urn, x_for, x_while, x_lc, x_yes,
  x_wiSeq, x_rng1, x_rng2, x_wiStr, x_wiEnum, x_wiZip, x_wiRev,
  o_add, o_addS, o_addL, o_addT, o_int, o_cmp, o_eq, o_ixL, o_ixT, o_ixS, o_slL, o_slT, o_slS, o_inS, o_i1, o_i2, o_lenL, o_lenT, o_lenS, o_lenR, o_intI, o_intB, o_str, o_isi, o_list, o_tuple, o_mul, o_mulS, o_isN, non_n, non_b, non_i, non_s, non_l, non_t, ty_n, ty_b, ty_i, ty_s, ty_l, ty_t, o_part, o_split, p_10_3, t_10_3, p_10_6, t_10_6, p_10_12, t_10_12, p_10_18, t_10_18, o_starts,
  kit_nb, kit_ni, kit_ns, kit_nl, kit_nt, kit_bb, kit_bi, kit_bs, kit_bl, kit_bt, kit_ib, kit_ii, kit_is, kit_il, kit_it, kit_sb, kit_si, kit_ss, kit_sl, kit_st, kit_lb, kit_li, kit_ls, kit_ll, kit_lt, kit_tb, kit_ti, kit_ts, kit_tl, kit_tt,
 
  List.getElem?_cons_zero, List.getElem?_cons_succ, List.length_cons, List.length_nil, List.set_cons_zero, List.set_cons_succ, List.map_cons, List.map_nil, Option.map_some, Option.getD_some, wipeS, e_ii, e_ss, e_bb, e_nn, e_ni, e_in, e_ns, e_sn, e_nt, e_tn, e_nl, e_ln, e_is, e_si, e_it, e_ti, e_il, e_li, e_st, e_ts, e_sl, e_ls, e_tl, e_lt, e_tt, e_ll, ea_nil, ea_nc, ea_cn, ea_cc, sh_n, sh_b, sh_i, sh_ii, ok_ss, ok_sn, ok_ns, ok_si, ok_is, ok_ii, ok_ni, ok_in, ok_tt, ok_ll, bt, bf, ndec, at_0, at_1, at_2, at_3, at_4, at_5, at_6, at_7,
  Bool.and_eq_true, Bool.true_and, Bool.and_true, Bool.false_and, Bool.and_false, Bool.not_true, Bool.not_false, ite_not, true_and, and_true, decide_eq_true_eq, if_true, Bool.false_eq_true, if_false, ↓reduceIte, Nat.lt_add_left_iff_pos, Nat.zero_lt_succ])
theorem sem_law_number (K : PySem.W.Frag) : ∀ (ss : List Sl) (Qv : Sl → Prop) (Ev : EX), ss.length = 2 → F_law_number K ss Qv Ev → w_law_number K { nx := fun _ => Qv (.val .none), rt := Qv, ex := Ev } (rho0 N_law_number ss) := by
  rintro ss Qv Ev - ⟨k, rfl, h⟩
  show w_law_number K _ [.urn, .val (.int k), .no]
  unfold w_law_number
  have fin : ∀ a b : Int, b ≠ 0 → a.natAbs < 10 ^ 12 → b.natAbs < 10 ^ 12 → F_law_low K [.val (.int a), .val (.int b)] (fun t => retS t ∧ Qv t) Ev := fun a b hb la lb => by
    obtain h1 := low_ok a hb la lb
    exact ⟨a, b, rfl, hb, Nat.lt_of_lt_of_le la (by decide +kernel), Nat.lt_of_lt_of_le lb (by decide +kernel), trivial, h _ _ h1⟩
  walk_at "x"
  by_cases c : k = 2
  · rw [if_pos c]
    refine draw_ok K (by decide) (by decide) fun x x0 x1 => ?_
    walk_at "x"
    refine ⟨mul_small 40 (by decide) (by decide) (by omega) (by decide), draw_ok K (by decide) (by decide) fun y y0 y1 => ?_⟩
    walk_at "x"
    refine ⟨by decide, draw_ok K (by decide) (by decide) fun e e0 e1 => ?_⟩
    have : e = 0 ∨ e = 1 := by omega
    rcases this with rfl | rfl
    · walk_at "x"
      refine ⟨mul_small 60 (by decide) (by decide) (by omega) (by decide), draw_ok K (by decide) (by decide) fun b b0 b1 => ?_⟩
      walk_at "x"
      exact ⟨mul_small 40 (by decide) (by decide) (by omega) (by decide), fin _ _ (by omega) (by omega) (by omega)⟩
    · walk_at "x"
      refine ⟨mul_small 60 (by decide) (by decide) (by omega) (by decide), draw_ok K (by decide) (by decide) fun b b0 b1 => ?_⟩
      walk_at "x"
      exact ⟨mul_small 40 (by decide) (by decide) (by omega) (by decide), fin _ _ (by omega) (by omega) (by omega)⟩
  · rw [if_neg c]
    refine draw_ok K (by decide) (by decide) fun x x0 x1 => ?_
    walk_at "x"
    refine draw_ok K (by decide) (by decide) fun y y0 y1 => ?_
    walk_at "x"
    refine ⟨mul_small 40 (by decide) (by decide) (by omega) (by split <;> decide), fin _ _ ?_ (by omega) ?_⟩
    · split <;> omega
    · split <;> omega
theorem rng_get {n : Nat} {i : Nat} {d : D} (h : (rng 0 n)[i]? = some d) : i < n ∧ d = .int i := by
  unfold rng at h
  rw [List.getElem?_map] at h
  cases e : (List.range n)[i]? with
  | none => rw [e] at h; cases h
  | some j =>
    rw [e] at h
    cases h
    have := List.getElem?_eq_some_iff.mp e
    obtain ⟨h1, h2⟩ := this
    rw [List.getElem_range] at h2
    subst h2
    exact ⟨by simpa using h1, by simp⟩
theorem rng_len (n : Nat) : (rng 0 n).length = n := by simp [rng]
theorem sem_law_far_number (K : PySem.W.Frag) : ∀ (ss : List Sl) (Qv : Sl → Prop) (Ev : EX), ss.length = 1 → F_law_far_number K ss Qv Ev → w_law_far_number K { nx := fun _ => Qv (.val .none), rt := Qv, ex := Ev } (rho0 N_law_far_number ss) := by
  rintro ss Qv Ev - ⟨rfl, h⟩
  show w_law_far_number K _ [.urn, .no, .no, .no]
  unfold w_law_far_number
  have fin : ∀ a b : Int, 0 < b → a.natAbs < 10 ^ 30 → b.natAbs < 10 ^ 30 → F_law_low K [.val (.int a), .val (.int b)] (fun t => retS t ∧ Qv t) Ev := fun a b hb la lb => by
    obtain h1 := low_ok a (show b ≠ 0 by omega) la lb
    exact ⟨a, b, rfl, by omega, Nat.lt_of_lt_of_le la (by decide +kernel), Nat.lt_of_lt_of_le lb (by decide +kernel), trivial, h _ _ h1⟩
  have stp : ∀ (i : Nat) (t x : Int), i < 5 → 0 ≤ t → t < 10 ^ (6 * i) → 0 ≤ x → x < 1000000 → 0 ≤ t * 1000000 + x ∧ t * 1000000 + x < 10 ^ (6 * (i + 1)) := fun i t x hi t0 t1 x0 x1 => by
    refine ⟨by omega, ?_⟩
    rw [show 6 * (i + 1) = 6 * i + 6 by omega, Int.pow_add]
    have : (10 : Int) ^ 6 = 1000000 := by decide
    omega
  have big : ∀ (i : Nat) (t : Int), i ≤ 5 → 0 ≤ t → t < 10 ^ (6 * i) → t.natAbs < 10 ^ 30 := fun i t hi t0 t1 => by
    have : (10 : Nat) ^ (6 * i) ≤ 10 ^ 30 := Nat.pow_le_pow_right (by decide) (by omega)
    have e : ((10 ^ (6 * i) : Nat) : Int) = 10 ^ (6 * i) := by simp
    omega
  walk_at "x"
  refine ⟨by decide, draw_ok K (by decide) (by decide) fun j j0 j1 => ?_⟩
  walk_at "x"
  refine ⟨by unfold smallI; omega, fun i ρ => ∃ (t : Int) (s : Sl), ρ = [.urn, .val (.int t), .val (.int 0), s] ∧ 0 ≤ t ∧ t < 10 ^ (6 * i), ⟨0, _, rfl, by decide, by decide⟩, fun i d ρ hd hi => ?_, fun ρ hi => ?_⟩
  · obtain ⟨il, rfl⟩ := rng_get hd
    obtain ⟨t, s, rfl, t0, t1⟩ := hi
    walk_at "x"
    refine ⟨mul_small 200 (by decide) (by decide) (Nat.lt_of_lt_of_le (big i t (by omega) t0 t1) (by decide +kernel)) (by decide), draw_ok K (by decide) (by decide) fun x x0 x1 => ?_⟩
    walk_at "x"
    obtain ⟨s1, s2⟩ := stp i t x (by omega) t0 t1 x0 x1
    exact ⟨_, _, rfl, s1, s2⟩
  · obtain ⟨t, s, rfl, t0, t1⟩ := hi
    rw [rng_len] at t1
    have tb := big _ t (by omega) t0 t1
    walk_at "x"
    refine draw_ok K (by decide) (by decide) fun j2 k0 k1 => ?_
    walk_at "x"
    refine ⟨by unfold smallI; omega, fun i ρ => ∃ (u : Int) (s : Sl), ρ = [.urn, .val (.int t), .val (.int u), s] ∧ 0 ≤ u ∧ u < 10 ^ (6 * i), ⟨0, _, rfl, by decide, by decide⟩, fun i d ρ hd hi => ?_, fun ρ hi => ?_⟩
    · obtain ⟨il, rfl⟩ := rng_get hd
      obtain ⟨u, s, rfl, u0, u1⟩ := hi
      walk_at "x"
      refine ⟨mul_small 200 (by decide) (by decide) (Nat.lt_of_lt_of_le (big i u (by omega) u0 u1) (by decide +kernel)) (by decide), draw_ok K (by decide) (by decide) fun x x0 x1 => ?_⟩
      walk_at "x"
      obtain ⟨s1, s2⟩ := stp i u x (by omega) u0 u1 x0 x1
      exact ⟨_, _, rfl, s1, s2⟩
    · obtain ⟨u, s, rfl, u0, u1⟩ := hi
      rw [rng_len] at u1
      have ub := big _ u (by omega) u0 u1
      walk_at "x"
      refine ⟨by decide, draw_ok K (by decide) (by decide) fun e e0 e1 => ?_⟩
      have : e = 0 ∨ e = 1 := by omega
      have b1 : 0 < (if u > 1 then u else 1) := by split <;> omega
      have b2 : (if u > 1 then u else 1).natAbs < 10 ^ 30 := by
        split
        · exact ub
        · decide +kernel
      rcases this with rfl | rfl
      · walk_at "x"
        exact ⟨mul_small 200 (by decide) (by decide) (Nat.lt_of_lt_of_le tb (by decide +kernel)) (by decide), fin _ _ b1 (by rw [Int.mul_one]; exact tb) b2⟩
      · walk_at "x"
        exact ⟨mul_small 200 (by decide) (by decide) (Nat.lt_of_lt_of_le tb (by decide +kernel)) (by decide), fin _ _ b1 (by rw [Int.mul_neg_one, Int.natAbs_neg]; exact tb) b2⟩
end Lw

set_option linter.all false
set_option maxRecDepth 100000
set_option maxHeartbeats 2000000
set_option exponentiation.threshold 20000
namespace Lw
open PySem PySem.Spec PyProof.Rows VL
local macro_rules | `(tactic| walk_at "x") => `(tactic| simp only [on1_some, onOI_x, onD_val, onD_own, onB_x, onI_x, onV_val, onV_urn, onV_raw, onV_scr, onO_own, onDs_nil, onDs_cons, onBS_x, on2_x, onL1_x, onL_x, onU_x, onSeq_l, onSeq_t, onStr_x, onZ_l, onZ_t,
  retS_val, retS_own, argS_val, argS_own, argS_urn, argS_raw, argS_scr, frzS_val, frzS_own, frzS_urn, frzS_raw, frzS_scr, frzS_no,
  x_dOf, x_wDats, x_var, x_c, x_r, x_bin, x_ixs, x_tst, x_and, x_or, x_not, x_andV, x_orV, x_notV, x_ifE, x_chain, x_neg, x_nil, x_cons, x_tup, x_lst, x_b, x_m, x_call, x_nop, x_part, x_sl, x_peek, x_peekT, x_ownIx, x_own0, x_ownS,
  x_seq, x_next, x_break, x_cont, x_ret, x_retN, x_retO, x_if, x_raise, x_set, x_setV, x_frz, x_asg, x_gset, x_gnil, x_gcons, x_gtup, x_gsub, x_par, x_aug, x_app, x_ext, x_pop, x_popN, x_urn, x_for, x_while, x_lc, x_yes,
  x_wiSeq, x_rng1, x_rng2, x_wiStr, x_wiEnum, x_wiZip, x_wiRev,
  o_add, o_addS, o_addL, o_addT, o_int, o_cmp, o_eq, o_ixL, o_ixT, o_ixS, o_slL, o_slT, o_slS, o_inS, o_i1, o_i2, o_lenL, o_lenT, o_lenS, o_lenR, o_intI, o_intB, o_str, o_isi, o_list, o_tuple, o_mul, o_mulS, o_isN, non_n, non_b, non_i, non_s, non_l, non_t, ty_n, ty_b, ty_i, ty_s, ty_l, ty_t, o_part, o_split, p_10_3, t_10_3, p_10_6, t_10_6, p_10_12, t_10_12, p_10_18, t_10_18, o_starts,
  kit_nb, kit_ni, kit_ns, kit_nl, kit_nt, kit_bb, kit_bi, kit_bs, kit_bl, kit_bt, kit_ib, kit_ii, kit_is, kit_il, kit_it, kit_sb, kit_si, kit_ss, kit_sl, kit_st, kit_lb, kit_li, kit_ls, kit_ll, kit_lt, kit_tb, kit_ti, kit_ts, kit_tl, kit_tt,
 
  List.getElem?_cons_zero, List.getElem?_cons_succ, List.length_cons, List.length_nil, List.set_cons_zero, List.set_cons_succ, List.map_cons, List.map_nil, Option.map_some, Option.getD_some, wipeS, e_ii, e_ss, e_bb, e_nn, e_ni, e_in, e_ns, e_sn, e_nt, e_tn, e_nl, e_ln, e_is, e_si, e_it, e_ti, e_il, e_li, e_st, e_ts, e_sl, e_ls, e_tl, e_lt, e_tt, e_ll, ea_nil, ea_nc, ea_cn, ea_cc, sh_n, sh_b, sh_i, sh_ii, ok_ss, ok_sn, ok_ns, ok_si, ok_is, ok_ii, ok_ni, ok_in, ok_tt, ok_ll, bt, bf, ndec, at_0, at_1, at_2, at_3, at_4, at_5, at_6, at_7,
  Bool.and_eq_true, Bool.true_and, Bool.and_true, Bool.false_and, Bool.and_false, Bool.not_true, Bool.not_false, ite_not, true_and, and_true, decide_eq_true_eq, if_true, Bool.false_eq_true, if_false, ↓reduceIte, Nat.lt_add_left_iff_pos, Nat.zero_lt_succ])
theorem cut_len (z : Str) (lo hi : Option Int) : (L2.cutS z lo hi).length ≤ z.length := by
  unfold L2.cutS
  show (List.toArray _).size ≤ _
  rw [List.size_toArray, List.length_take, List.length_drop, Array.length_toList]
  have : z.cps.size = z.length := rfl
  omega
theorem cut_split (z : Str) {n : Int} (h0 : 0 ≤ n) : (L2.cutS z none (some n)).length + (L2.cutS z (some n) none).length = z.length := by
  obtain ⟨k, rfl⟩ : ∃ k : Nat, n = k := ⟨n.toNat, by omega⟩
  unfold L2.cutS
  rw [HT.sIx_nat, HT.sIx_nat]
  show (List.toArray _).size + (List.toArray _).size = _
  rw [List.size_toArray, List.size_toArray, List.length_take, List.length_drop, List.length_take, List.length_drop, Array.length_toList]
  have : z.cps.size = z.length := rfl
  have e1 : HT.sIx z.length 0 none = 0 := rfl
  have e2 : HT.sIx z.length z.length none = z.length := rfl
  rw [e1, e2]
  omega
theorem cut_mono (z : Str) {n m : Int} (h0 : 0 ≤ n) (h : n ≤ m) : (L2.cutS z (some m) none).length ≤ (L2.cutS z (some n) none).length := by
  obtain ⟨k, rfl⟩ : ∃ k : Nat, n = k := ⟨n.toNat, by omega⟩
  obtain ⟨l, rfl⟩ : ∃ l : Nat, m = l := ⟨m.toNat, by omega⟩
  unfold L2.cutS
  rw [HT.sIx_nat, HT.sIx_nat]
  show (List.toArray _).size ≤ (List.toArray _).size
  have e2 : HT.sIx z.length z.length none = z.length := rfl
  rw [e2, List.size_toArray, List.size_toArray, List.length_take, List.length_drop, List.length_take, List.length_drop, Array.length_toList]
  have : z.cps.size = z.length := rfl
  omega
theorem one_len (c : Nat) : (⟨#[c]⟩ : Str).length = 1 := rfl
theorem len14 : ("0123456789-/ ;" : Str).length = 14 := by decide +kernel
theorem len95 : (" !\"#$&'()*+,-./0123456789:;<=>?@ABCDEFGHIJKLMNOPQRSTUVWXYZ[\\]^_`abcdefghijklmnopqrstuvwxyz{|}~" : Str).length = 94 := by decide +kernel
theorem sem_law_spoilt (K : PySem.W.Frag) : ∀ (ss : List Sl) (Qv : Sl → Prop) (Ev : EX), ss.length = 2 → F_law_spoilt K ss Qv Ev → w_law_spoilt K { nx := fun _ => Qv (.val .none), rt := Qv, ex := Ev } (rho0 N_law_spoilt ss) := by
  rintro ss Qv Ev - ⟨z, rfl, lz, h⟩
  show w_law_spoilt K _ [.urn, .val (.str z), .no, .no, .no, .no, .no]
  unfold w_law_spoilt
  have sz : (1000000 : Nat) ≤ sizeLine := by decide
  have l95 := len95
  generalize hev : (" !\"#$&'()*+,-./0123456789:;<=>?@ABCDEFGHIJKLMNOPQRSTUVWXYZ[\\]^_`abcdefghijklmnopqrstuvwxyz{|}~" : Str) = ev at l95 ⊢
  have l14 := len14
  generalize ("0123456789-/ ;" : Str) = ev2 at l14 ⊢
  walk_at "x"
  refine draw_ok K (by decide) (by decide) fun j j0 j1 => ?_
  walk_at "x"
  refine ⟨by unfold smallI; omega, fun i ρ => ∃ (y : Str) (a b c d : Sl), ρ = [.urn, .val (.str y), .val (.str ev), a, b, c, d] ∧ y.length ≤ z.length + i, ⟨z, _, _, _, _, rfl, by omega⟩, fun i d ρ hd hi => ?_, fun ρ hi => ?_⟩
  · obtain ⟨il, rfl⟩ := rng_get hd
    obtain ⟨y, a, b, c, d, rfl, ly⟩ := hi
    walk_at "x"
    refine draw_ok K (by decide) (by decide) fun way w0 w1 => ?_
    walk_at "x"
    refine ⟨by omega, draw_ok K (by omega) (by omega) fun pl p0 p1 => ?_⟩
    walk_at "x"
    refine draw_ok K (by decide) (by decide) fun s s0 s1 => ?_
    walk_at "x"
    refine ⟨by omega, ?_⟩
    obtain ⟨sg, hs, _⟩ := at_of ev2.cps.toList s0 (by rw [Array.length_toList]; have : ev2.cps.size = ev2.length := rfl; omega)
    rw [hs]
    walk_at "x"
    have key : ∀ g : Nat, wIf (wTst (wBin (oCmp fun i j => decide (i < j)) (wVar 4) (wC (.int 2)))) (wSetV 1 (wBin oAdd (wBin oAdd (wSl (wVar 1) wNoP (wPart (wVar 5))) (wVar 6)) (wSl (wVar 1) (wPart (wVar 5)) wNoP)))
        (wIf (wTst (wBin (oEq true) (wVar 4) (wC (.int 2)))) (wSetV 1 (wBin oAdd (wSl (wVar 1) wNoP (wPart (wVar 5))) (wSl (wVar 1) (wPart (wBin oAdd (wVar 5) (wC (.int 1)))) wNoP)))
          (wSetV 1 (wBin oAdd (wBin oAdd (wSl (wVar 1) wNoP (wPart (wVar 5))) (wVar 6)) (wSl (wVar 1) (wPart (wBin oAdd (wVar 5) (wC (.int 1)))) wNoP))))
        { nx := fun ρ => ∃ (y : Str) (a b c d : Sl), ρ = [.urn, .val (.str y), .val (.str ev), a, b, c, d] ∧ y.length ≤ z.length + (i + 1), rt := Qv, ex := Ev } [.urn, .val (.str y), .val (.str ev), .val (.int i), .val (.int way), .val (.int pl), .val (.str ⟨#[g]⟩)] := fun g => by
      have c1 := cut_split y p0
      have c2 := cut_mono y p0 (show pl ≤ pl + 1 by omega)
      have o1 := one_len g
      walk_at "x"
      split
      · refine ⟨by omega, by omega, by omega, by rw [len_app]; omega, _, _, _, _, _, rfl, ?_⟩
        rw [len_app, len_app]; omega
      · split
        · refine ⟨by omega, by omega, by omega, _, _, _, _, _, rfl, ?_⟩
          rw [len_app]; omega
        · refine ⟨by omega, by omega, by omega, by rw [len_app]; omega, _, _, _, _, _, rfl, ?_⟩
          rw [len_app, len_app]; omega
    refine draw_ok K (by decide) (by decide) fun t t0 t1 => ?_
    walk_at "x"
    by_cases tz : t = 0
    · rw [if_pos tz]
      refine ⟨by omega, draw_ok K (by omega) (by omega) fun v v0 v1 => ?_⟩
      obtain ⟨g, hg, _⟩ := at_of ev.cps.toList v0 (by rw [Array.length_toList]; have : ev.cps.size = ev.length := rfl; omega)
      walk_at "x"
      rw [hg]
      refine ⟨by omega, ?_⟩
      have kk := key g
      revert kk
      walk_at "x"
      exact fun kk => kk
    · rw [if_neg tz]
      have kk := key sg
      revert kk
      walk_at "x"
      exact fun kk => kk
  · obtain ⟨y, a, b, c, d, rfl, ly⟩ := hi
    rw [rng_len] at ly
    walk_at "x"
    exact h y (by omega)
theorem readTop_lt {z : Str} {n : Int} (h : readTop z = some n) : n.natAbs < 10 ^ 30 := by
  unfold readTop at h
  split at h
  · cases hf : figs (tailS z) with
    | none => rw [hf] at h; cases h
    | some m =>
      rw [hf] at h
      simp only at h
      split at h
      · cases h
      · cases h
        have := (figs_lt hf).2
        omega
  · exact (figs_lt h).2
theorem readN_ok {z : Str} {a b : Int} (h : readN z = some (a, b)) : numOk (10 ^ 30) a b := by
  unfold readN at h
  cases hx : readTop (Txt.partition z "/").1 with
  | none => rw [hx] at h; cases h
  | some n =>
    rw [hx] at h
    simp only at h
    have l := readTop_lt hx
    split at h
    · cases h
      exact ⟨by decide, by simp, l, by decide +kernel⟩
    · cases hw : figs (Txt.partition z "/").2.2 with
      | none => rw [hw] at h; cases h
      | some m =>
        rw [hw] at h
        simp only at h
        split at h
        · cases h
        · rename_i c
          cases h
          exact ⟨by omega, by omega, l, (figs_lt hw).2⟩
theorem sem_law_is_read (K : PySem.W.Frag) : ∀ (ss : List Sl) (Qv : Sl → Prop) (Ev : EX), ss.length = 1 → F_law_is_read K ss Qv Ev → w_law_is_read K { nx := fun _ => Qv (.val .none), rt := Qv, ex := Ev } (rho0 N_law_is_read ss) := by
  rintro ss Qv Ev - ⟨kf, z, rfl, lz, h⟩
  show w_law_is_read K _ [.val (.str z), .no, .no]
  unfold w_law_is_read
  walk_at "x"
  refine ⟨z, rfl, lz, kf, .str z, rfl, lz, ?_⟩
  unfold saidD
  show _
  rw [show readD (.str z) = readN z from rfl]
  cases hr : readN z with
  | none =>
    walk_at "x"
    refine ⟨by decide, ⟨by decide +kernel, by decide +kernel⟩, ?_⟩
    simpa using h
  | some p =>
    obtain ⟨a, b⟩ := p
    obtain ⟨h1, h2, h3, h4⟩ := readN_ok hr
    have sh : SeqAt.shaped (.tuple [.str "told", .tuple [.int a, .int b]]) = true := by
      have : PyData.strOk ("told" : Str) = true := by decide +kernel
      unfold SeqAt.shaped
      simp [PyData.canLay0, PyData.canLayAll0, PyData.depth, PyData.depthAll, this]
    walk_at "x"
    refine ⟨by decide, ⟨sh, sh⟩, a, b, rfl, small30 h3, small30 h4, trivial, ?_⟩
    rw [decide_eq_true h1, decide_eq_true h2]
    exact h
end Lw

set_option linter.all false
set_option maxRecDepth 100000
set_option maxHeartbeats 2000000
set_option exponentiation.threshold 20000
namespace Lw
open PySem PySem.Spec PyProof.Rows VL
local macro_rules | `(tactic| walk_at "x") => `(tactic| simp only [on1_some, onOI_x, onD_val, onD_own, onB_x, onI_x, onV_val, onV_urn, onV_raw, onV_scr, onO_own, onDs_nil, onDs_cons, onBS_x, on2_x, onL1_x, onL_x, onU_x, onSeq_l, onSeq_t, onStr_x, onZ_l, onZ_t,
  retS_val, retS_own, argS_val, argS_own, argS_urn, argS_raw, argS_scr, frzS_val, frzS_own, frzS_urn, frzS_raw, frzS_scr, frzS_no,
  x_dOf, x_wDats, x_var, x_c, x_r, x_bin, x_ixs, x_tst, x_and, x_or, x_not, x_andV, x_orV, x_notV, x_ifE, x_chain, x_neg, x_nil, x_cons, x_tup, x_lst, x_b, x_m, x_call, x_nop, x_part, x_sl, x_peek, x_peekT, x_ownIx, x_own0, x_ownS,
  x_seq, x_next, x_break, x_cont, x_ret, x_retN, x_retO, x_if, x_raise, x_set, x_setV, x_frz, x_asg, x_gset, x_gnil, x_gcons, x_gtup, x_gsub, x_par, x_aug, x_app, x_ext, x_pop, x_popN, x_urn, x_for, x_while, x_lc, x_yes,
  x_wiSeq, x_rng1, x_rng2, x_wiStr, x_wiEnum, x_wiZip, x_wiRev,
  o_add, o_addS, o_addL, o_addT, o_int, o_cmp, o_eq, o_ixL, o_ixT, o_ixS, o_slL, o_slT, o_slS, o_inS, o_i1, o_i2, o_lenL, o_lenT, o_lenS, o_lenR, o_intI, o_intB, o_str, o_isi, o_list, o_tuple, o_mul, o_mulS, o_isN, non_n, non_b, non_i, non_s, non_l, non_t, ty_n, ty_b, ty_i, ty_s, ty_l, ty_t, o_part, o_split, p_10_3, t_10_3, p_10_6, t_10_6, p_10_12, t_10_12, p_10_18, t_10_18, o_starts,
  kit_nb, kit_ni, kit_ns, kit_nl, kit_nt, kit_bb, kit_bi, kit_bs, kit_bl, kit_bt, kit_ib, kit_ii, kit_is, kit_il, kit_it, kit_sb, kit_si, kit_ss, kit_sl, kit_st, kit_lb, kit_li, kit_ls, kit_ll, kit_lt, kit_tb, kit_ti, kit_ts, kit_tl, kit_tt,
 
  List.getElem?_cons_zero, List.getElem?_cons_succ, List.length_cons, List.length_nil, List.set_cons_zero, List.set_cons_succ, List.map_cons, List.map_nil, Option.map_some, Option.getD_some, wipeS, e_ii, e_ss, e_bb, e_nn, e_ni, e_in, e_ns, e_sn, e_nt, e_tn, e_nl, e_ln, e_is, e_si, e_it, e_ti, e_il, e_li, e_st, e_ts, e_sl, e_ls, e_tl, e_lt, e_tt, e_ll, ea_nil, ea_nc, ea_cn, ea_cc, sh_n, sh_b, sh_i, sh_ii, ok_ss, ok_sn, ok_ns, ok_si, ok_is, ok_ii, ok_ni, ok_in, ok_tt, ok_ll, bt, bf, ndec, at_0, at_1, at_2, at_3, at_4, at_5, at_6, at_7,
  Bool.and_eq_true, Bool.true_and, Bool.and_true, Bool.false_and, Bool.and_false, Bool.not_true, Bool.not_false, ite_not, true_and, and_true, decide_eq_true_eq, if_true, Bool.false_eq_true, if_false, ↓reduceIte, Nat.lt_add_left_iff_pos, Nat.zero_lt_succ])
def okU (l : List Sl) : Prop := (l.all fun s => !isUrn s) = true
def J (ns : List Int) (ρ : Sts) : Prop := ∃ a b c d e f g k l : Sl, ρ = [.scr ns, a, b, c, d, e, f, g, k, l] ∧ okU [a, c, d, e, f, g, k, l]
theorem nu_val {d : D} : isUrn (.val d) = false := rfl
theorem nu_scr {d : List Int} : isUrn (.scr d) = false := rfl
theorem nu_no : isUrn .no = false := rfl
theorem okU_nil : okU [] = True := eq_true rfl
theorem okU_cons {s : Sl} {l : List Sl} : okU (s :: l) = (isUrn s = false ∧ okU l) := by
  unfold okU
  rw [List.all_cons, Bool.and_eq_true, Bool.not_eq_true']
theorem okU_all {l : List Sl} : ((l.all fun s => !isUrn s) = true) = okU l := rfl
theorem strs_get {l : List Str} {i : Nat} {d : D} (h : (strsD l)[i]? = some d) : ∃ z, z ∈ l ∧ d = .str z := by
  unfold strsD at h
  rw [List.getElem?_map] at h
  cases e : l[i]? with
  | none => rw [e] at h; cases h
  | some z => rw [e] at h; cases h; exact ⟨z, List.mem_of_getElem? e, rfl⟩
theorem law_r2 (K : PySem.W.Frag) (kf : Kf K) {ns : List Int} {x : Sl} {a b : Int} {sm : List Str} {d6 d7 d8 d9 : Sl} {D : Ds} (la : a.natAbs < 10 ^ 300) (lb : b.natAbs < 10 ^ 300) (hs : ∀ z ∈ sm, z.length ≤ sizeLine) (hl : sm.length ≤ 1000) (hu : okU [x, d6, d7, d8, d9]) (kn : ∀ ρ, J ns ρ → D.nx ρ) :
    w_law_r2 K D [.scr ns, x, .urn, .val (.tuple [.int a, .int b]), .val (.str (numT a b)), .val (.list (strsD sm)), d6, d7, d8, d9] := by
  unfold w_law_r2
  walk_at "x"
  refine ⟨by unfold smallI; omega, fun _ ρ => ∃ d6 d7 d8 d9 : Sl, ρ = [.scr ns, x, .urn, .val (.tuple [.int a, .int b]), .val (.str (numT a b)), .val (.list (strsD sm)), d6, d7, d8, d9] ∧ okU [x, d6, d7, d8, d9], ⟨_, _, _, _, rfl, hu⟩, fun i d ρ hd hi => ?_, fun ρ hi => ?_⟩
  · obtain ⟨il, rfl⟩ := rng_get hd
    obtain ⟨d6, d7, d8, d9, rfl, hu⟩ := hi
    walk_at "x"
    refine ⟨a, b, rfl, la, lb, ?_⟩
    walk_at "x"
    refine lc1 (n := 0) (A := fun d R => F_law_is_read K [.val d] R noE) (fun _ => .bool true) (by rw [show (strsD sm).length = sm.length by simp [strsD]]; exact Nat.le_trans hl (by decide)) (fun i d R hd k => ?_) ?_
    · obtain ⟨z, hz, rfl⟩ := strs_get hd
      exact ⟨kf, z, rfl, hs z hz, k _ rfl⟩
    · rw [show ((strsD sm).map fun _ => PyData.bool true) = (sm.map fun _ => true).map PyData.bool by simp [strsD], o_all]
      rw [show (sm.map fun _ => true).all id = true by simp]
      walk_at "x"
      refine ⟨by decide, by decide, by decide, by decide, ?_⟩
      refine ⟨fun _ ρ => ∃ d9 : Sl, ρ = [.scr ns, x, .urn, .val (.tuple [.int a, .int b]), .val (.str (numT a b)), .val (.list (strsD sm)), .val (.int i), .val (.str (numT a b)), d8, d9] ∧ okU [d9], ⟨_, rfl, ?_⟩, fun j d ρ hd hi => ?_, fun ρ hi => ?_⟩
      · (simp only [okU_cons] at hu ⊢; simp only [hu, okU_nil, and_self])
      · obtain ⟨d9, rfl, hu9⟩ := hi
        have hd : shortD d ∧ readD d = none := by
          have := List.mem_of_getElem? hd
          simp only [List.mem_cons, List.not_mem_nil, or_false] at this
          rcases this with rfl | rfl | rfl | rfl | rfl | rfl | rfl <;> exact ⟨trivial, rfl⟩
        walk_at "x"
        refine ⟨kf, d, rfl, hd.1, ?_⟩
        unfold saidD
        rw [hd.2]
        walk_at "x"
        refine ⟨by decide, ⟨by decide +kernel, by decide +kernel⟩, _, rfl, ?_⟩
        simp only [okU_cons, nu_val, okU_nil, and_self]
      · obtain ⟨d9, rfl, hu9⟩ := hi
        refine ⟨_, _, _, _, rfl, ?_⟩
        (simp only [okU_cons, nu_val, okU_nil, true_and, and_true] at hu hu9 ⊢; simp only [hu, hu9, and_self])
  · obtain ⟨d6, d7, d8, d9, rfl, hu⟩ := hi
    refine kn _ ⟨_, _, _, _, _, _, _, _, _, rfl, ?_⟩
    (simp only [okU_all, okU_cons, okU_nil, nu_val, nu_scr, nu_no, true_and, and_true] at hu ⊢; simp only [hu, and_self])
theorem sem_law (K : PySem.W.Frag) : ∀ (ss : List Sl) (Qv : Sl → Prop) (Ev : EX), ss.length = 1 → F_law K ss Qv Ev → w_law K { nx := fun _ => Qv (.val .none), rt := Qv, ex := Ev } (rho0 N_law ss) := by
  rintro ss Qv Ev - ⟨kf, ns, rfl, h⟩
  show w_law K _ [.scr ns, .no, .no, .no, .no, .no, .no, .no, .no, .no]
  unfold w_law
  walk_at "x"
  refine ⟨by unfold smallI; split <;> split <;> omega, fun i ρ => J ns ρ, ⟨_, _, _, _, _, _, _, _, _, rfl, rfl⟩, fun i d ρ hd hi => ?_, fun ρ hi => ?_⟩
  · obtain ⟨il, rfl⟩ := rng_get hd
    obtain ⟨a, b, c, d, e, f, g, k, l, rfl, hu⟩ := hi
    have i4 : i < 100 := by revert il; split <;> split <;> omega
    walk_at "x"
    refine ⟨ns, i, rfl, by omega, by omega, fun g0 m q uok => ?_⟩
    walk_at "x"
    refine ⟨uok, by (simp only [okU_all, okU_cons, okU_nil, nu_val, nu_scr, nu_no, true_and, and_true] at hu ⊢; simp only [hu, and_self]), rfl, fun x y hxy => ?_⟩
    have key : ∀ (x y : Int), numOk (10 ^ 30) x y → w_law_r1 K { nx := fun ρ => J ns ρ, rt := Qv, bk := wRet (wC (.bool true)) { nx := fun x => Qv (Sl.val PyData.none), rt := Qv, ex := Ev }, ct := fun ρ => J ns ρ, ex := Ev } [Sl.scr ns, Sl.val (PyData.int ↑i), Sl.urn, .val (.tuple [.int x, .int y]), d, e, f, g, k, l] := fun x y hxy => by
      obtain ⟨y0, gxy, lx, ly⟩ := hxy
      unfold w_law_r1
      walk_at "x"
      refine ⟨x, y, rfl, small30 lx, small30 ly, ?_⟩
      have tl := numT_len (small30 lx) (small30 ly)
      walk_at "x"
      refine ⟨_, rfl, by omega, fun z1 l1 => ?_⟩
      walk_at "x"
      refine ⟨_, rfl, by omega, fun z2 l2 => ?_⟩
      walk_at "x"
      have sz : (1000000 : Nat) ≤ sizeLine := by decide
      have e9 : ("9" : Str).length = 1 := by decide +kernel
      have e7 : ("7" : Str).length = 1 := by decide +kernel
      have e8 : ("8" : Str).length = 1 := by decide +kernel
      have ed : ("-" : Str).length = 1 := by decide +kernel
      have e1 : ("1/" : Str).length = 2 := by decide +kernel
      have r9 := repS_len "9"
      have r7 := repS_len "7"
      have r8 := repS_len "8"
      simp only [r9, r7, r8, e9, e7, e8, ed, e1]
      refine ⟨by omega, by omega, by decide, by decide, by decide, by decide, by decide, by decide, by decide, by decide, by omega, by omega, by decide, by decide, by decide, by decide, by decide, by decide, by decide, by decide, by decide, by decide, by decide, by decide, by decide, by decide, by decide, by decide, by decide, by decide, by decide, by decide, by omega, by simp only [List.length_append, List.length_cons, List.length_nil]; omega, ?_⟩
      have m1 : ∀ z : Str, z.length ≤ 10000 → z.length ≤ sizeLine := fun z h => by omega
      have r2 := law_r2 K kf (ns := ns) (x := .val (.int i)) (a := x) (b := y) (d6 := f) (d7 := g) (d8 := k) (d9 := l) (D := { nx := fun ρ => J ns ρ, rt := Qv, bk := wRet (wC (.bool true)) { nx := fun x => Qv (Sl.val PyData.none), rt := Qv, ex := Ev }, ct := fun ρ => J ns ρ, ex := Ev })
        (sm := [numT x y, z1, z2, "", "-", "/", "-0", "00", "0/1", "2/4", ("1/0" : Str)] ++ [("+1" : Str), "0", "1/-2", "-1/2", "1/2/3", " 1", "1 ", numT x y ++ numT x y, repS "9" (Int.toNat 30), repS "9" (Int.toNat 31), "0/5"] ++ [("1/" : Str) ++ repS "7" (Int.toNat 30), ("1/" : Str) ++ repS "7" (Int.toNat 31), ("-" : Str) ++ repS "8" (Int.toNat 30), ("-" : Str) ++ repS "8" (Int.toNat 31)])
        (small30 lx) (small30 ly) (fun z hz => ?_) (by simp) (by (simp only [okU_all, okU_cons, okU_nil, nu_val, nu_scr, nu_no, true_and, and_true] at hu ⊢; simp only [hu, and_self])) (fun ρ hρ => hρ)
      · exact r2
      · simp only [List.mem_append, List.mem_cons, List.not_mem_nil, or_false] at hz
        refine m1 z ?_
        rcases hz with (((rfl | rfl | rfl | rfl | rfl | rfl | rfl | rfl | rfl | rfl | rfl) | (rfl | rfl | rfl | rfl | rfl | rfl | rfl | rfl | rfl | rfl | rfl)) | (rfl | rfl | rfl | rfl)) <;>
          first
          | omega
          | (rw [len_app]; omega)
          | (rw [len_app, repS_len]; decide +kernel)
          | (rw [repS_len]; decide +kernel)
          | decide +kernel
    refine draw_ok K (by decide) (by decide) fun t t0 t1 => ?_
    walk_at "x"
    by_cases tz : t = 0
    · rw [if_pos tz]
      refine ⟨rfl, fun kd _ _ => ⟨trivial, kd, rfl, fun x y hxy => ?_⟩⟩
      refine key x y ⟨hxy.1, hxy.2.1, ?_, ?_⟩
      · exact Nat.lt_of_lt_of_le hxy.2.2.1 (by decide +kernel)
      · exact Nat.lt_of_lt_of_le hxy.2.2.2 (by decide +kernel)
    · rw [if_neg tz]
      exact key x y hxy
  · obtain ⟨a, b, c, d, e, f, g, k, l, rfl, _⟩ := hi
    walk_at "x"
    exact h
end Lw

set_option linter.all false
set_option maxRecDepth 100000
set_option maxHeartbeats 2000000
set_option exponentiation.threshold 20000
namespace Lw
open PySem PySem.Spec PyProof.Rows VL
local macro_rules | `(tactic| walk_at "x") => `(tactic| simp only [on1_some, onOI_x, onD_val, onD_own, onB_x, onI_x, onV_val, onV_urn, onV_raw, onV_scr, onO_own, onDs_nil, onDs_cons, onBS_x, on2_x, onL1_x, onL_x, onU_x, onSeq_l, onSeq_t, onStr_x, onZ_l, onZ_t,
  retS_val, retS_own, argS_val, argS_own, argS_urn, argS_raw, argS_scr, frzS_val, frzS_own, frzS_urn, frzS_raw, frzS_scr, frzS_no,
  x_dOf, x_wDats, x_var, x_c, x_r, x_bin, x_ixs, x_tst, x_and, x_or, x_not, x_andV, x_orV, x_notV, x_ifE, x_chain, x_neg, x_nil, x_cons, x_tup, x_lst, x_b, x_m, x_call, x_nop, x_part, x_sl, x_peek, x_peekT, x_ownIx, x_own0, x_ownS,
  x_seq, x_next, x_break, x_cont, x_ret, x_retN, x_retO, x_if, x_raise, x_set, x_setV, x_frz, x_asg, x_gset, x_gnil, x_gcons, x_gtup, x_gsub, x_par, x_aug, x_app, x_ext, x_pop, x_popN, x_urn, x_for, x_while, x_lc, x_yes,
  x_wiSeq, x_rng1, x_rng2, x_wiStr, x_wiEnum, x_wiZip, x_wiRev,
  o_add, o_addS, o_addL, o_addT, o_int, o_cmp, o_eq, o_ixL, o_ixT, o_ixS, o_slL, o_slT, o_slS, o_inS, o_i1, o_i2, o_lenL, o_lenT, o_lenS, o_lenR, o_intI, o_intB, o_str, o_isi, o_list, o_tuple, o_mul, o_mulS, o_isN, non_n, non_b, non_i, non_s, non_l, non_t, ty_n, ty_b, ty_i, ty_s, ty_l, ty_t, o_part, o_split, p_10_3, t_10_3, p_10_6, t_10_6, p_10_12, t_10_12, p_10_18, t_10_18, o_starts,
  kit_nb, kit_ni, kit_ns, kit_nl, kit_nt, kit_bb, kit_bi, kit_bs, kit_bl, kit_bt, kit_ib, kit_ii, kit_is, kit_il, kit_it, kit_sb, kit_si, kit_ss, kit_sl, kit_st, kit_lb, kit_li, kit_ls, kit_ll, kit_lt, kit_tb, kit_ti, kit_ts, kit_tl, kit_tt,
 
  List.getElem?_cons_zero, List.getElem?_cons_succ, List.length_cons, List.length_nil, List.set_cons_zero, List.set_cons_succ, List.map_cons, List.map_nil, Option.map_some, Option.getD_some, wipeS, e_ii, e_ss, e_bb, e_nn, e_ni, e_in, e_ns, e_sn, e_nt, e_tn, e_nl, e_ln, e_is, e_si, e_it, e_ti, e_il, e_li, e_st, e_ts, e_sl, e_ls, e_tl, e_lt, e_tt, e_ll, ea_nil, ea_nc, ea_cn, ea_cc, sh_n, sh_b, sh_i, sh_ii, ok_ss, ok_sn, ok_ns, ok_si, ok_is, ok_ii, ok_ni, ok_in, ok_tt, ok_ll, bt, bf, ndec, at_0, at_1, at_2, at_3, at_4, at_5, at_6, at_7,
  Bool.and_eq_true, Bool.true_and, Bool.and_true, Bool.false_and, Bool.and_false, Bool.not_true, Bool.not_false, ite_not, true_and, and_true, decide_eq_true_eq, if_true, Bool.false_eq_true, if_false, ↓reduceIte, Nat.lt_add_left_iff_pos, Nat.zero_lt_succ])
theorem isP_eq {K : PySem.W.Frag} {c : Value} {a : Addr} {i j : Nat} {n : Str × Str} (wi : WhichIs K c i) (hn : refusals[j]? = some n) (Q : Sl → Prop) : oIsP K c a [.raw (.ref a), .raw (.ref (He.ga K n.1))] Q = Q (.val (.bool (decide (j = i)))) := by
  refine propext ⟨fun h => ?_, fun h => ?_⟩
  · obtain ⟨_, cv, b, h1, h2, h3⟩ := h
    have := h1 (.ref (He.ga K n.1)) rfl
    subst this
    rw [wi.all j n hn] at h2
    cases h2; exact h3
  · exact ⟨rfl, _, _, fun u r => by cases r; rfl, wi.all j n hn, h⟩
theorem isV_eq {K : PySem.W.Frag} {c : Value} {a : Addr} {i : Nat} (wi : WhichIs K c i) (Q : Sl → Prop) : oIsP K c a [.raw (.ref a), .raw (.ty "ValueError")] Q = Q (.val (.bool true)) := by
  refine propext ⟨fun h => ?_, fun h => ?_⟩
  · obtain ⟨_, cv, b, h1, h2, h3⟩ := h
    have := h1 (.type "ValueError") rfl
    subst this
    rw [wi.val] at h2
    cases h2; exact h3
  · exact ⟨rfl, _, _, fun u r => by cases r; rfl, wi.val, h⟩
theorem sem_law_which (K : PySem.W.Frag) : ∀ (c : Value) (a : Addr) (i : Nat) (Qv : Sl → Prop), WhichIs K c i → Qv (.val (.str (whichT i))) → w_law_which K c a { nx := fun _ => Qv (.val .none), rt := Qv, ex := fun _ => False } (rho0 N_law_which [.raw (.ref a)]) := by
  intro c a i Qv wi h
  show w_law_which K c a _ [.raw (.ref a), .no, .no]
  have e0 := isP_eq (a := a) wi (j := 0) rfl
  have e1 := isP_eq (a := a) wi (j := 1) rfl
  have e2 := isP_eq (a := a) wi (j := 2) rfl
  have e3 := isP_eq (a := a) wi (j := 3) rfl
  have e4 := isP_eq (a := a) wi (j := 4) rfl
  have e5 := isP_eq (a := a) wi (j := 5) rfl
  have e6 := isP_eq (a := a) wi (j := 6) rfl
  have e7 := isP_eq (a := a) wi (j := 7) rfl
  have e8 := isP_eq (a := a) wi (j := 8) rfl
  have e9 := isP_eq (a := a) wi (j := 9) rfl
  have e10 := isP_eq (a := a) wi (j := 10) rfl
  have e11 := isP_eq (a := a) wi (j := 11) rfl
  have e12 := isP_eq (a := a) wi (j := 12) rfl
  have e13 := isP_eq (a := a) wi (j := 13) rfl
  have e14 := isP_eq (a := a) wi (j := 14) rfl
  have e15 := isP_eq (a := a) wi (j := 15) rfl
  have ev := isV_eq (a := a) wi
  unfold w_law_which
  walk_at "x"
  dsimp only at e0 e1 e2 e3 e4 e5 e6 e7 e8 e9 e10 e11 e12 e13 e14 e15
  rw [e0]
  walk_at "x"
  rw [e1]
  walk_at "x"
  rw [e2]
  walk_at "x"
  rw [e3]
  walk_at "x"
  refine ⟨by decide, ?_⟩
  rw [e4]
  walk_at "x"
  rw [e5]
  walk_at "x"
  rw [e6]
  walk_at "x"
  rw [e7]
  walk_at "x"
  refine ⟨by decide, by decide, ?_⟩
  rw [e8]
  walk_at "x"
  rw [e9]
  walk_at "x"
  rw [e10]
  walk_at "x"
  rw [e11]
  walk_at "x"
  refine ⟨by decide, by simp only [List.length_append, List.length_cons, List.length_nil]; decide, ?_⟩
  rw [e12]
  walk_at "x"
  rw [e13]
  walk_at "x"
  rw [e14]
  walk_at "x"
  rw [e15]
  walk_at "x"
  refine ⟨by decide, by simp only [List.length_append, List.length_cons, List.length_nil]; decide, ?_⟩
  clear e0 e1 e2 e3 e4 e5 e6 e7 e8 e9 e10 e11 e12 e13 e14 e15
  simp only [List.cons_append, List.nil_append]
  have il := wi.lt
  have words : Txt.split ("fraction polynomial stretch row pair back form parts degree steps box gain text line name deed" : Str) " " = refusals.map (·.2) := by decide +kernel
  rw [words]
  have l1 : ((" " : Str).length == 0) = false := by decide +kernel
  have l2 : ("fraction polynomial stretch row pair back form parts degree steps box gain text line name deed" : Str).length + 2 ≤ sizeLine := by decide +kernel
  generalize ("fraction polynomial stretch row pair back form parts degree steps box gain text line name deed" : Str) = names at l2 ⊢
  have : i = 0 ∨ i = 1 ∨ i = 2 ∨ i = 3 ∨ i = 4 ∨ i = 5 ∨ i = 6 ∨ i = 7 ∨ i = 8 ∨ i = 9 ∨ i = 10 ∨ i = 11 ∨ i = 12 ∨ i = 13 ∨ i = 14 ∨ i = 15 := by omega
  rcases this with rfl | rfl | rfl | rfl | rfl | rfl | rfl | rfl | rfl | rfl | rfl | rfl | rfl | rfl | rfl | rfl
  all_goals
    refine ⟨rfl, rfl, ?_⟩
    show onD _ (Sl.val (.int 1))
    walk_at "x"
    rw [ev]
    walk_at "x"
    exact ⟨l1, l2, rfl, rfl, ⟨trivial, h⟩⟩
theorem sem_law_said (K : PySem.W.Frag) : ∀ (ss : List Sl) (Qv : Sl → Prop) (Ev : EX), ss.length = 1 → F_law_said K ss Qv Ev → w_law_said K { nx := fun _ => Qv (.val .none), rt := Qv, ex := Ev } (rho0 N_law_said ss) := by
  rintro ss Qv Ev - ⟨kf, d, rfl, hd, h⟩
  show w_law_said K _ [.val d, .no, .no]
  unfold w_law_said
  rw [x_seq]
  unfold wTryR
  walk_at "x"
  refine ⟨d, rfl, hd, ?_⟩
  unfold saidD at h
  cases hr : readD d with
  | some p =>
    obtain ⟨a, b⟩ := p
    rw [hr] at h
    walk_at "x"
    exact ⟨by decide, h⟩
  | none =>
    rw [hr] at h
    refine ⟨true, kf.1, fun _ ad ρ hl => ?_, fun z => nomatch z⟩
    match ρ, hl with
    | [s0, s1, s2], _ =>
      walk_at "x"
      refine ⟨rfl, 12, kf.2, ?_⟩
      walk_at "x"
      exact ⟨by decide, h⟩
end Lw

set_option Elab.async false
set_option linter.all false
set_option maxRecDepth 100000
set_option maxHeartbeats 2000000
set_option exponentiation.threshold 20000
/-! each def with its promise: printed by gen.py -/
namespace Lw
open PySem PySem.Spec PyProof.Rows L2 VL
section
variable {P : Program} {Wd : World} {K : PySem.W.Frag} {mg : Str → Option Value} {base : Heap}
theorem c_law_draw {f : Addr} {fd : FuncData} (Fn : FnP K "_law_draw" s_law_draw f fd) (g : mg "_law_draw" = some (.ref f)) : Fc P Wd K mg base 1 "_law_draw" 2 (F_law_draw K) := by
  refine ⟨f, fd, ["_law_urn_here", "_law_many"], Fn.ok sc_law_draw (fun vs H Q E h => ?_) (fun cdv A outer s H vs Q E hr h => ⟨t_draw K, ?_, pure_draw vs H Q E h⟩), g, Fn.kp, Fn.bindsN fun _ _ _ _ _ _ us hl => match us, hl with | [_, _], _ => rfl⟩
  · obtain ⟨_, _, ss, _, _, _, _, ar, hl, _⟩ := h
    rw [ar.len, hl]; rfl
  · have nd := sc_law_draw.nd
    exact pss_cons (ps_if (pt_cmpR op_gt (pe_ix ix_seq (pv 0) pe_int (fun _ _ => rfl)) pe_int (nomark _))
      (pss_cons (ps_set (i := 2) nd rfl (Or.inl rfl) (pe_op op_modN (pe_ix ix_seq (pv 0) pe_int (fun _ _ => rfl)) (pv 1)))
        (pss_cons (ps_asg (pe_op op_fdivA (pe_ix ix_seq (pv 0) pe_int (fun _ _ => rfl)) (pv 1)) (pg_sub (pv 0) pe_int set_list)) (pss_one (ps_ret (pv 2))))) pss_nil)
      (pss_cons (ps_asg (pe_op op_modN (pe_op op_add (pe_op op_mulA (pe_ix ix_seq (pv 0) pe_int (fun _ _ => rfl)) pe_int) pe_int) (pe_ix ix_seq (pv 0) pe_int (fun _ _ => rfl))) (pg_sub (pv 0) pe_int set_list))
        (pss_one (ps_ret (pe_op op_modN (pe_op op_fdivA (pe_op op_modN (pe_op op_pow (pe_op op_fdivA (pe_ix ix_seq (pv 0) pe_int (fun _ _ => rfl)) pe_int) pe_int) pe_int) pe_int) (pv 1)))))
theorem c_shared_divisor {f : Addr} {fd : FuncData} (Fn : FnP K "shared_divisor" s_shared_divisor f fd) (g : mg "shared_divisor" = some (.ref f)) (T : Tx K mg)  : Fc P Wd K mg base 1 "shared_divisor" 2 (F_shared_divisor K) :=
  ⟨f, fd, ["one", "other"], fn_ok Fn sc_shared_divisor (b_shared_divisor T ) (sem_shared_divisor K), g, Fn.kp, Fn.bindsN fun _ _ _ _ _ _ us hl => match us, hl with | [_, _], _ => rfl⟩
theorem c_show_number {f : Addr} {fd : FuncData} (Fn : FnP K "show_number" s_show_number f fd) (g : mg "show_number" = some (.ref f)) (T : Tx K mg)  : Fc P Wd K mg base 1 "show_number" 1 (F_show_number K) :=
  ⟨f, fd, ["number"], fn_ok Fn sc_show_number (b_show_number T ) (sem_show_number K), g, Fn.kp, Fn.bindsN fun _ _ _ _ _ _ us hl => match us, hl with | [_], _ => rfl⟩
theorem c_read_figures {f : Addr} {fd : FuncData} (Fn : FnP K "read_figures" s_read_figures f fd) (g : mg "read_figures" = some (.ref f)) (T : Tx K mg)  : Fc P Wd K mg base 1 "read_figures" 1 (F_read_figures K) :=
  ⟨f, fd, ["text"], fn_ok Fn sc_read_figures (b_read_figures T ) (sem_read_figures K), g, Fn.kp, Fn.bindsN fun _ _ _ _ _ _ us hl => match us, hl with | [_], _ => rfl⟩
theorem c_read_top {f : Addr} {fd : FuncData} (Fn : FnP K "read_top" s_read_top f fd) (g : mg "read_top" = some (.ref f)) (T : Tx K mg) (C_read_figures : Fc P Wd K mg base 1 "read_figures" 1 (F_read_figures K)) : Fc P Wd K mg base 2 "read_top" 1 (F_read_top K) :=
  ⟨f, fd, ["text"], fn_ok Fn sc_read_top (b_read_top T C_read_figures) (sem_read_top K), g, Fn.kp, Fn.bindsN fun _ _ _ _ _ _ us hl => match us, hl with | [_], _ => rfl⟩
theorem c_read_number {f : Addr} {fd : FuncData} (Fn : FnP K "read_number" s_read_number f fd) (g : mg "read_number" = some (.ref f)) (T : Tx K mg) (C_read_top : Fc P Wd K mg base 2 "read_top" 1 (F_read_top K)) (C_read_figures : Fc P Wd K mg base 1 "read_figures" 1 (F_read_figures K)) (C_shared_divisor : Fc P Wd K mg base 1 "shared_divisor" 2 (F_shared_divisor K)) : Fc P Wd K mg base 3 "read_number" 1 (F_read_number K) :=
  ⟨f, fd, ["text"], fn_ok Fn sc_read_number (b_read_number T C_read_top C_read_figures C_shared_divisor) (sem_read_number K), g, Fn.kp, Fn.bindsN fun _ _ _ _ _ _ us hl => match us, hl with | [_], _ => rfl⟩
theorem c_law_urn {f : Addr} {fd : FuncData} (Fn : FnP K "_law_urn" s_law_urn f fd) (g : mg "_law_urn" = some (.ref f)) (T : Tx K mg)  : Fc P Wd K mg base 1 "_law_urn" 2 (F_law_urn K) :=
  ⟨f, fd, ["_law_script", "_law_at"], fn_ok Fn sc_law_urn (b_law_urn T ) (sem_law_urn K), g, Fn.kp, Fn.bindsN fun _ _ _ _ _ _ us hl => match us, hl with | [_, _], _ => rfl⟩
theorem c_law_low {f : Addr} {fd : FuncData} (Fn : FnP K "_law_low" s_law_low f fd) (g : mg "_law_low" = some (.ref f)) (T : Tx K mg)  : Fc P Wd K mg base 1 "_law_low" 2 (F_law_low K) :=
  ⟨f, fd, ["_law_top", "_law_bottom"], fn_ok Fn sc_law_low (b_law_low T ) (sem_law_low K), g, Fn.kp, Fn.bindsN fun _ _ _ _ _ _ us hl => match us, hl with | [_, _], _ => rfl⟩
theorem c_law_kind {f : Addr} {fd : FuncData} (Fn : FnP K "_law_kind" s_law_kind f fd) (g : mg "_law_kind" = some (.ref f)) (T : Tx K mg) (C_law_draw : Fc P Wd K mg base 1 "_law_draw" 2 (F_law_draw K)) : Fc P Wd K mg base 2 "_law_kind" 1 (F_law_kind K) :=
  ⟨f, fd, ["_law_urn_here"], fn_ok Fn sc_law_kind (b_law_kind T C_law_draw) (sem_law_kind K), g, Fn.kp, Fn.bindsN fun _ _ _ _ _ _ us hl => match us, hl with | [_], _ => rfl⟩
theorem c_law_number {f : Addr} {fd : FuncData} (Fn : FnP K "_law_number" s_law_number f fd) (g : mg "_law_number" = some (.ref f)) (T : Tx K mg) (C_law_draw : Fc P Wd K mg base 1 "_law_draw" 2 (F_law_draw K)) (C_law_low : Fc P Wd K mg base 1 "_law_low" 2 (F_law_low K)) : Fc P Wd K mg base 2 "_law_number" 2 (F_law_number K) :=
  ⟨f, fd, ["_law_urn_here", "_law_kind_here"], fn_ok Fn sc_law_number (b_law_number T C_law_draw C_law_low) (sem_law_number K), g, Fn.kp, Fn.bindsN fun _ _ _ _ _ _ us hl => match us, hl with | [_, _], _ => rfl⟩
theorem c_law_whole {f : Addr} {fd : FuncData} (Fn : FnP K "_law_whole" s_law_whole f fd) (g : mg "_law_whole" = some (.ref f)) (T : Tx K mg)  : Fc P Wd K mg base 1 "_law_whole" 1 (F_law_whole K) :=
  ⟨f, fd, ["_law_thing"], fn_ok Fn sc_law_whole (b_law_whole T ) (sem_law_whole K), g, Fn.kp, Fn.bindsN fun _ _ _ _ _ _ us hl => match us, hl with | [_], _ => rfl⟩
theorem c_law_is_number {f : Addr} {fd : FuncData} (Fn : FnP K "_law_is_number" s_law_is_number f fd) (g : mg "_law_is_number" = some (.ref f)) (T : Tx K mg) (C_law_whole : Fc P Wd K mg base 1 "_law_whole" 1 (F_law_whole K)) (C_law_low : Fc P Wd K mg base 1 "_law_low" 2 (F_law_low K)) : Fc P Wd K mg base 2 "_law_is_number" 1 (F_law_is_number K) :=
  ⟨f, fd, ["_law_thing"], fn_ok Fn sc_law_is_number (b_law_is_number T C_law_whole C_law_low) (sem_law_is_number K), g, Fn.kp, Fn.bindsN fun _ _ _ _ _ _ us hl => match us, hl with | [_], _ => rfl⟩
theorem c_law_which {f : Addr} {fd : FuncData} (Fn : FnP K "_law_which" s_law_which f fd) (g : mg "_law_which" = some (.ref f)) (T : Tx K mg) : Fw P Wd K mg base 1 :=
  fw_of Fn sc_law_which g (w_law_which K) (fun D p cdv A outer s H E ec hz hf hr => b_law_which T cdv A outer s H E ec hz hf hr) (sem_law_which K) (Fn.bindsN fun _ _ _ _ _ _ us hl => match us, hl with | [_], _ => rfl)
theorem c_law_figures {f : Addr} {fd : FuncData} (Fn : FnP K "_law_figures" s_law_figures f fd) (g : mg "_law_figures" = some (.ref f)) (T : Tx K mg)  : Fc P Wd K mg base 1 "_law_figures" 1 (F_law_figures K) :=
  ⟨f, fd, ["_law_text"], fn_ok Fn sc_law_figures (b_law_figures T ) (sem_law_figures K), g, Fn.kp, Fn.bindsN fun _ _ _ _ _ _ us hl => match us, hl with | [_], _ => rfl⟩
theorem c_law_read_number {f : Addr} {fd : FuncData} (Fn : FnP K "_law_read_number" s_law_read_number f fd) (g : mg "_law_read_number" = some (.ref f)) (T : Tx K mg) (C_law_figures : Fc P Wd K mg base 1 "_law_figures" 1 (F_law_figures K)) (C_law_low : Fc P Wd K mg base 1 "_law_low" 2 (F_law_low K)) : Fc P Wd K mg base 2 "_law_read_number" 1 (F_law_read_number K) :=
  ⟨f, fd, ["_law_text"], fn_ok Fn sc_law_read_number (b_law_read_number T C_law_figures C_law_low) (sem_law_read_number K), g, Fn.kp, Fn.bindsN fun _ _ _ _ _ _ us hl => match us, hl with | [_], _ => rfl⟩
theorem c_law_show_number {f : Addr} {fd : FuncData} (Fn : FnP K "_law_show_number" s_law_show_number f fd) (g : mg "_law_show_number" = some (.ref f)) (T : Tx K mg)  : Fc P Wd K mg base 1 "_law_show_number" 1 (F_law_show_number K) :=
  ⟨f, fd, ["_law_number_here"], fn_ok Fn sc_law_show_number (b_law_show_number T ) (sem_law_show_number K), g, Fn.kp, Fn.bindsN fun _ _ _ _ _ _ us hl => match us, hl with | [_], _ => rfl⟩
theorem c_law_spoilt {f : Addr} {fd : FuncData} (Fn : FnP K "_law_spoilt" s_law_spoilt f fd) (g : mg "_law_spoilt" = some (.ref f)) (T : Tx K mg) (C_law_draw : Fc P Wd K mg base 1 "_law_draw" 2 (F_law_draw K)) : Fc P Wd K mg base 2 "_law_spoilt" 2 (F_law_spoilt K) :=
  ⟨f, fd, ["_law_urn_here", "_law_text"], fn_ok Fn sc_law_spoilt (b_law_spoilt T C_law_draw) (sem_law_spoilt K), g, Fn.kp, Fn.bindsN fun _ _ _ _ _ _ us hl => match us, hl with | [_, _], _ => rfl⟩
theorem c_law_far_number {f : Addr} {fd : FuncData} (Fn : FnP K "_law_far_number" s_law_far_number f fd) (g : mg "_law_far_number" = some (.ref f)) (T : Tx K mg) (C_law_draw : Fc P Wd K mg base 1 "_law_draw" 2 (F_law_draw K)) (C_law_low : Fc P Wd K mg base 1 "_law_low" 2 (F_law_low K)) : Fc P Wd K mg base 2 "_law_far_number" 1 (F_law_far_number K) :=
  ⟨f, fd, ["_law_urn_here"], fn_ok Fn sc_law_far_number (b_law_far_number T C_law_draw C_law_low) (sem_law_far_number K), g, Fn.kp, Fn.bindsN fun _ _ _ _ _ _ us hl => match us, hl with | [_], _ => rfl⟩
theorem c_law_said {f : Addr} {fd : FuncData} (Fn : FnP K "_law_said" s_law_said f fd) (g : mg "_law_said" = some (.ref f)) (T : Tx K mg) (C_read_number : Fc P Wd K mg base 3 "read_number" 1 (F_read_number K)) (C_law_which : Fw P Wd K mg base 1) : Fc P Wd K mg base 4 "_law_said" 1 (F_law_said K) :=
  ⟨f, fd, ["_law_thing"], fn_ok Fn sc_law_said (b_law_said T C_read_number C_law_which) (sem_law_said K), g, Fn.kp, Fn.bindsN fun _ _ _ _ _ _ us hl => match us, hl with | [_], _ => rfl⟩
theorem c_law_is_read {f : Addr} {fd : FuncData} (Fn : FnP K "_law_is_read" s_law_is_read f fd) (g : mg "_law_is_read" = some (.ref f)) (T : Tx K mg) (C_law_read_number : Fc P Wd K mg base 2 "_law_read_number" 1 (F_law_read_number K)) (C_law_said : Fc P Wd K mg base 4 "_law_said" 1 (F_law_said K)) (C_law_is_number : Fc P Wd K mg base 2 "_law_is_number" 1 (F_law_is_number K)) : Fc P Wd K mg base 5 "_law_is_read" 1 (F_law_is_read K) :=
  ⟨f, fd, ["_law_text"], fn_ok Fn sc_law_is_read (b_law_is_read T C_law_read_number C_law_said C_law_is_number) (sem_law_is_read K), g, Fn.kp, Fn.bindsN fun _ _ _ _ _ _ us hl => match us, hl with | [_], _ => rfl⟩
end
end Lw
/-! the head: printed by gen.py -/
namespace Lw
open PySem PySem.Spec PyProof.Rows L2 VL
def d_shared_divisor : He.DefD := ⟨("shared_divisor", none), "shared_divisor", "shared_divisor", defArgs s_shared_divisor, defBody s_shared_divisor, defScope s_shared_divisor, [], []⟩
def d_show_number : He.DefD := ⟨("show_number", none), "show_number", "show_number", defArgs s_show_number, defBody s_show_number, defScope s_show_number, [], []⟩
def d_read_figures : He.DefD := ⟨("read_figures", none), "read_figures", "read_figures", defArgs s_read_figures, defBody s_read_figures, defScope s_read_figures, [], []⟩
def d_read_top : He.DefD := ⟨("read_top", none), "read_top", "read_top", defArgs s_read_top, defBody s_read_top, defScope s_read_top, [], []⟩
def d_read_number : He.DefD := ⟨("read_number", none), "read_number", "read_number", defArgs s_read_number, defBody s_read_number, defScope s_read_number, [], []⟩
def d_law_urn : He.DefD := ⟨("_law_urn", none), "_law_urn", "_law_urn", defArgs s_law_urn, defBody s_law_urn, defScope s_law_urn, [], []⟩
def d_law_draw : He.DefD := ⟨("_law_draw", none), "_law_draw", "_law_draw", defArgs s_law_draw, defBody s_law_draw, defScope s_law_draw, [], []⟩
def d_law_low : He.DefD := ⟨("_law_low", none), "_law_low", "_law_low", defArgs s_law_low, defBody s_law_low, defScope s_law_low, [], []⟩
def d_law_kind : He.DefD := ⟨("_law_kind", none), "_law_kind", "_law_kind", defArgs s_law_kind, defBody s_law_kind, defScope s_law_kind, [], []⟩
def d_law_number : He.DefD := ⟨("_law_number", none), "_law_number", "_law_number", defArgs s_law_number, defBody s_law_number, defScope s_law_number, [], []⟩
def d_law_whole : He.DefD := ⟨("_law_whole", none), "_law_whole", "_law_whole", defArgs s_law_whole, defBody s_law_whole, defScope s_law_whole, [], []⟩
def d_law_is_number : He.DefD := ⟨("_law_is_number", none), "_law_is_number", "_law_is_number", defArgs s_law_is_number, defBody s_law_is_number, defScope s_law_is_number, [], []⟩
def d_law_which : He.DefD := ⟨("_law_which", none), "_law_which", "_law_which", defArgs s_law_which, defBody s_law_which, defScope s_law_which, [], []⟩
def d_law_figures : He.DefD := ⟨("_law_figures", none), "_law_figures", "_law_figures", defArgs s_law_figures, defBody s_law_figures, defScope s_law_figures, [], []⟩
def d_law_read_number : He.DefD := ⟨("_law_read_number", none), "_law_read_number", "_law_read_number", defArgs s_law_read_number, defBody s_law_read_number, defScope s_law_read_number, [], []⟩
def d_law_show_number : He.DefD := ⟨("_law_show_number", none), "_law_show_number", "_law_show_number", defArgs s_law_show_number, defBody s_law_show_number, defScope s_law_show_number, [], []⟩
def d_law_spoilt : He.DefD := ⟨("_law_spoilt", none), "_law_spoilt", "_law_spoilt", defArgs s_law_spoilt, defBody s_law_spoilt, defScope s_law_spoilt, [], []⟩
def d_law_far_number : He.DefD := ⟨("_law_far_number", none), "_law_far_number", "_law_far_number", defArgs s_law_far_number, defBody s_law_far_number, defScope s_law_far_number, [], []⟩
def d_law_said : He.DefD := ⟨("_law_said", none), "_law_said", "_law_said", defArgs s_law_said, defBody s_law_said, defScope s_law_said, [], []⟩
def d_law_is_read : He.DefD := ⟨("_law_is_read", none), "_law_is_read", "_law_is_read", defArgs s_law_is_read, defBody s_law_is_read, defScope s_law_is_read, [], []⟩
def d_law : He.DefD := ⟨("law", none), "law", "law", defArgs s_law, defBody s_law, defScope s_law, [], []⟩
def fn : List He.DefD := [d_shared_divisor, d_show_number, d_read_figures, d_read_top, d_read_number, d_law_urn, d_law_draw, d_law_low, d_law_kind, d_law_number, d_law_whole, d_law_is_number, d_law_which, d_law_figures, d_law_read_number, d_law_show_number, d_law_spoilt, d_law_far_number, d_law_said, d_law_is_read, d_law]
def fa0 : List He.Fa := [.glo "shared_divisor", .glo "show_number", .glo "read_figures", .glo "read_top", .glo "read_number", .glo "_law_urn", .glo "_law_draw", .glo "_law_low", .glo "_law_kind", .glo "_law_number", .glo "_law_whole", .glo "_law_is_number", .glo "_law_which", .glo "_law_figures", .glo "_law_read_number", .glo "_law_show_number", .glo "_law_spoilt", .glo "_law_far_number", .glo "_law_said", .glo "_law_is_read", .glo "law", .free "abs", .free "str", .free "all", .str "FIGURES" "0123456789", .free "len", .int "MOST_FIGURES" 30, .glo "NoText", .exc "NoText", .free "int"]
def fa1 : List He.Fa := [.free "isinstance", .free "bool", .free "tuple", .glo "NoRow", .glo "NoStretch", .glo "NoPolynomial", .glo "NoFraction", .glo "NoParts", .glo "NoForm", .glo "NoBack", .glo "NoPair", .glo "NoGain", .glo "NoBox", .glo "NoSteps", .glo "NoDegree", .glo "NoDeed", .glo "NoName", .glo "NoLine", .free "ValueError", .free "range", .free "max", .glo "RestError", .free "min"]
def fa : List He.Fa := fa0 ++ fa1
def ex (K : PySem.W.Frag) : Bool := whichB K "NoText" 12
abbrev R : PySem.W.OpenRow := PySem.W.OpenLaw.row PySem.Challenge.rw_restward_k63_numbers_written
abbrev hk : PySem.W.Hook := He.hookX 5 fa fn [] [] ex
def ob (s : PySem.W.SharedT) : He.AlX := He.obsX 5 fa fn [] [] ex (HandSHeadRun.getT s)
theorem ob_eq (s : PySem.W.SharedT) : ob s = hk.obs s.abs := He.obsX_eq (HandSHeadRun.getT_eq s)
def lo0 : List Str := ["RestError", "NoFraction", "NoPolynomial", "NoStretch", "NoRow", "NoPair", "NoBack", "NoForm", "NoParts", "NoDegree", "NoSteps", "NoBox", "NoGain", "NoText", "NoLine", "NoName", "NoDeed", "shared_divisor", "FIGURES", "MOST_FIGURES", "show_number", "read_figures", "read_top", "read_number", "_law_urn", "_law_draw", "_law_low", "_law_kind", "_law_number", "_law_whole"]
def lo1 : List Str := ["_law_is_number", "_law_which", "_law_figures", "_law_read_number", "_law_show_number", "_law_spoilt", "_law_far_number", "_law_said", "_law_is_read"]
def lo : List Str := lo0 ++ lo1
theorem run (w : World) : HandSHeadRun.RunEq R (PySem.W.view R.prog [43]) hk ob 6000 lo w := by
  intro os
  kernel_rfl
end Lw
/-! the promise of the law's def holds -/
namespace Lw
open PySem PySem.Spec PyProof.Rows L2 VL
theorem law_of {K : PySem.W.Frag} (m : ex K = true) : ∀ ns : List Int, ns.length ≤ 63 → (∀ z ∈ ns, Builtin.Int.intBits z ≤ 1048576) → F_law K [.scr ns] (fun s => s = .val (.bool true)) (fun _ => False) := by
  intro ns _ _
  have kf := whichB_ok (C := "NoText") (i := 12) (t := "text") m rfl
  exact ⟨⟨kf.2, kf.1⟩, ns, rfl, rfl⟩
end Lw
/-! the end: printed by gen.py -/
namespace Lw
open PySem PySem.Spec PyProof.Rows L2 VL
theorem tx_of {K : PySem.W.Frag} {h : Heap} {mg : Str → Option Value} (X : K.In h) (G : h.Ns mainGlobals mg) (c : He.SaysD fa fn K) (m : ex K = true) : Tx K mg where
  n_abs := He.free_ok X G (c.fact 21 (f := .free "abs") rfl)
  n_str := He.free_ok X G (c.fact 22 (f := .free "str") rfl)
  n_all := He.free_ok X G (c.fact 23 (f := .free "all") rfl)
  c_FIGURES := constF_str (He.str_ok X G (c.fact 24 (f := .str "FIGURES" "0123456789") rfl))
  n_len := He.free_ok X G (c.fact 25 (f := .free "len") rfl)
  c_MOST_FIGURES := constF_int (He.int_ok X G (c.fact 26 (f := .int "MOST_FIGURES" 30) rfl))
  r_NoText := raiseF_of (He.glo_ok X G (c.fact 27 (f := .glo "NoText") rfl)) (He.exc_ok (c.fact 28 (f := .exc "NoText") rfl))
  n_int := He.free_ok X G (c.fact 29 (f := .free "int") rfl)
  n_isinstance := He.free_ok X G (c.fact 30 (f := .free "isinstance") rfl)
  n_bool := He.free_ok X G (c.fact 31 (f := .free "bool") rfl)
  n_tuple := He.free_ok X G (c.fact 32 (f := .free "tuple") rfl)
  g_NoRow := He.glo_ok X G (c.fact 33 (f := .glo "NoRow") rfl)
  g_NoStretch := He.glo_ok X G (c.fact 34 (f := .glo "NoStretch") rfl)
  g_NoPolynomial := He.glo_ok X G (c.fact 35 (f := .glo "NoPolynomial") rfl)
  g_NoFraction := He.glo_ok X G (c.fact 36 (f := .glo "NoFraction") rfl)
  g_NoParts := He.glo_ok X G (c.fact 37 (f := .glo "NoParts") rfl)
  g_NoForm := He.glo_ok X G (c.fact 38 (f := .glo "NoForm") rfl)
  g_NoBack := He.glo_ok X G (c.fact 39 (f := .glo "NoBack") rfl)
  g_NoPair := He.glo_ok X G (c.fact 40 (f := .glo "NoPair") rfl)
  g_NoGain := He.glo_ok X G (c.fact 41 (f := .glo "NoGain") rfl)
  g_NoBox := He.glo_ok X G (c.fact 42 (f := .glo "NoBox") rfl)
  g_NoSteps := He.glo_ok X G (c.fact 43 (f := .glo "NoSteps") rfl)
  g_NoDegree := He.glo_ok X G (c.fact 44 (f := .glo "NoDegree") rfl)
  g_NoDeed := He.glo_ok X G (c.fact 45 (f := .glo "NoDeed") rfl)
  g_NoName := He.glo_ok X G (c.fact 46 (f := .glo "NoName") rfl)
  g_NoLine := He.glo_ok X G (c.fact 47 (f := .glo "NoLine") rfl)
  g_NoText := He.glo_ok X G (c.fact 27 (f := .glo "NoText") rfl)
  n_ValueError := He.free_ok X G (c.fact 48 (f := .free "ValueError") rfl)
  n_range := He.free_ok X G (c.fact 49 (f := .free "range") rfl)
  n_max := He.free_ok X G (c.fact 50 (f := .free "max") rfl)
  g_RestError := He.glo_ok X G (c.fact 51 (f := .glo "RestError") rfl)
  n_min := He.free_ok X G (c.fact 52 (f := .free "min") rfl)
theorem fin {P : Program} {Wd : World} {K : PySem.W.Frag} {h : Heap} {mg : Str → Option Value} {f : Addr} (X : K.In h) (G : h.Ns mainGlobals mg) (hfa : mg ("law" : Str) = some (.ref f)) (c : He.SaysD fa fn K) (m : ex K = true) :
    ∃ fd : FuncData, (∀ (s : Shared) (v : Value), BindsTo s fd ⟨[v], []⟩ [("_law_script", v)]) ∧ ∀ base : Heap, K.In base → base.Ns mainGlobals mg → FnOk P Wd K mg base (L2.CX P Wd) 6 f fd ["_law_script"] (spOf K 1 (F_law K)) := by
  have T : Tx K mg := tx_of X G c m
  obtain ⟨fd_shared_divisor, M_shared_divisor⟩ := c.def_ 0 (d := d_shared_divisor) rfl
  obtain ⟨fd_show_number, M_show_number⟩ := c.def_ 1 (d := d_show_number) rfl
  obtain ⟨fd_read_figures, M_read_figures⟩ := c.def_ 2 (d := d_read_figures) rfl
  obtain ⟨fd_read_top, M_read_top⟩ := c.def_ 3 (d := d_read_top) rfl
  obtain ⟨fd_read_number, M_read_number⟩ := c.def_ 4 (d := d_read_number) rfl
  obtain ⟨fd_law_urn, M_law_urn⟩ := c.def_ 5 (d := d_law_urn) rfl
  obtain ⟨fd_law_draw, M_law_draw⟩ := c.def_ 6 (d := d_law_draw) rfl
  obtain ⟨fd_law_low, M_law_low⟩ := c.def_ 7 (d := d_law_low) rfl
  obtain ⟨fd_law_kind, M_law_kind⟩ := c.def_ 8 (d := d_law_kind) rfl
  obtain ⟨fd_law_number, M_law_number⟩ := c.def_ 9 (d := d_law_number) rfl
  obtain ⟨fd_law_whole, M_law_whole⟩ := c.def_ 10 (d := d_law_whole) rfl
  obtain ⟨fd_law_is_number, M_law_is_number⟩ := c.def_ 11 (d := d_law_is_number) rfl
  obtain ⟨fd_law_which, M_law_which⟩ := c.def_ 12 (d := d_law_which) rfl
  obtain ⟨fd_law_figures, M_law_figures⟩ := c.def_ 13 (d := d_law_figures) rfl
  obtain ⟨fd_law_read_number, M_law_read_number⟩ := c.def_ 14 (d := d_law_read_number) rfl
  obtain ⟨fd_law_show_number, M_law_show_number⟩ := c.def_ 15 (d := d_law_show_number) rfl
  obtain ⟨fd_law_spoilt, M_law_spoilt⟩ := c.def_ 16 (d := d_law_spoilt) rfl
  obtain ⟨fd_law_far_number, M_law_far_number⟩ := c.def_ 17 (d := d_law_far_number) rfl
  obtain ⟨fd_law_said, M_law_said⟩ := c.def_ 18 (d := d_law_said) rfl
  obtain ⟨fd_law_is_read, M_law_is_read⟩ := c.def_ 19 (d := d_law_is_read) rfl
  obtain ⟨fd_law, M_law⟩ := c.def_ 20 (d := d_law) rfl
  have e := hfa.symm.trans (He.glo_ok X G (c.fact 20 (f := .glo "law") rfl))
  cases e
  have b := FunD.bindsA (ps := ["_law_script"]) M_law fun _ _ _ _ _ _ us hl => match us, hl with | [_], _ => rfl
  refine ⟨fd_law, fun s v => b s [v] rfl, fun base _ _ => ?_⟩
  have C_shared_divisor := c_shared_divisor (P := P) (Wd := Wd) (base := base) M_shared_divisor (He.glo_ok X G (c.fact 0 (f := .glo "shared_divisor") rfl)) T 
  have C_show_number := c_show_number (P := P) (Wd := Wd) (base := base) M_show_number (He.glo_ok X G (c.fact 1 (f := .glo "show_number") rfl)) T 
  have C_read_figures := c_read_figures (P := P) (Wd := Wd) (base := base) M_read_figures (He.glo_ok X G (c.fact 2 (f := .glo "read_figures") rfl)) T 
  have C_read_top := c_read_top (P := P) (Wd := Wd) (base := base) M_read_top (He.glo_ok X G (c.fact 3 (f := .glo "read_top") rfl)) T C_read_figures
  have C_read_number := c_read_number (P := P) (Wd := Wd) (base := base) M_read_number (He.glo_ok X G (c.fact 4 (f := .glo "read_number") rfl)) T C_read_top C_read_figures C_shared_divisor
  have C_law_urn := c_law_urn (P := P) (Wd := Wd) (base := base) M_law_urn (He.glo_ok X G (c.fact 5 (f := .glo "_law_urn") rfl)) T 
  have C_law_draw := c_law_draw (P := P) (Wd := Wd) (base := base) M_law_draw (He.glo_ok X G (c.fact 6 (f := .glo "_law_draw") rfl))
  have C_law_low := c_law_low (P := P) (Wd := Wd) (base := base) M_law_low (He.glo_ok X G (c.fact 7 (f := .glo "_law_low") rfl)) T 
  have C_law_kind := c_law_kind (P := P) (Wd := Wd) (base := base) M_law_kind (He.glo_ok X G (c.fact 8 (f := .glo "_law_kind") rfl)) T C_law_draw
  have C_law_number := c_law_number (P := P) (Wd := Wd) (base := base) M_law_number (He.glo_ok X G (c.fact 9 (f := .glo "_law_number") rfl)) T C_law_draw C_law_low
  have C_law_whole := c_law_whole (P := P) (Wd := Wd) (base := base) M_law_whole (He.glo_ok X G (c.fact 10 (f := .glo "_law_whole") rfl)) T 
  have C_law_is_number := c_law_is_number (P := P) (Wd := Wd) (base := base) M_law_is_number (He.glo_ok X G (c.fact 11 (f := .glo "_law_is_number") rfl)) T C_law_whole C_law_low
  have C_law_which : Fw P Wd K mg base 1 := c_law_which M_law_which (He.glo_ok X G (c.fact 12 (f := .glo "_law_which") rfl)) T
  have C_law_figures := c_law_figures (P := P) (Wd := Wd) (base := base) M_law_figures (He.glo_ok X G (c.fact 13 (f := .glo "_law_figures") rfl)) T 
  have C_law_read_number := c_law_read_number (P := P) (Wd := Wd) (base := base) M_law_read_number (He.glo_ok X G (c.fact 14 (f := .glo "_law_read_number") rfl)) T C_law_figures C_law_low
  have C_law_show_number := c_law_show_number (P := P) (Wd := Wd) (base := base) M_law_show_number (He.glo_ok X G (c.fact 15 (f := .glo "_law_show_number") rfl)) T 
  have C_law_spoilt := c_law_spoilt (P := P) (Wd := Wd) (base := base) M_law_spoilt (He.glo_ok X G (c.fact 16 (f := .glo "_law_spoilt") rfl)) T C_law_draw
  have C_law_far_number := c_law_far_number (P := P) (Wd := Wd) (base := base) M_law_far_number (He.glo_ok X G (c.fact 17 (f := .glo "_law_far_number") rfl)) T C_law_draw C_law_low
  have C_law_said := c_law_said (P := P) (Wd := Wd) (base := base) M_law_said (He.glo_ok X G (c.fact 18 (f := .glo "_law_said") rfl)) T C_read_number C_law_which
  have C_law_is_read := c_law_is_read (P := P) (Wd := Wd) (base := base) M_law_is_read (He.glo_ok X G (c.fact 19 (f := .glo "_law_is_read") rfl)) T C_law_read_number C_law_said C_law_is_number
  exact fn_ok M_law sc_law (w := w_law K) (b_law T C_law_urn C_law_far_number C_law_draw C_law_kind C_law_number C_law_show_number C_law_spoilt C_show_number C_law_is_read C_law_said) (sem_law K)
end Lw
open PySem PySem.W PySem.Calls PyProof.Rows
theorem PySem.Challenge.cw_restward_k63_numbers_written_holds : PySem.Challenge.rw_restward_k63_numbers_written.Holds := by
  w_on; o_law
  refine HandSHeadRun.head_any (r := OpenLaw.row PySem.Challenge.rw_restward_k63_numbers_written) (q := view (OpenLaw.row PySem.Challenge.rw_restward_k63_numbers_written).prog [43]) (H := Lw.hk) (ob := Lw.ob) (M := 6000) (loose := Lw.lo) (d := HandSHeadRun.topDef (OpenLaw.row PySem.Challenge.rw_restward_k63_numbers_written).prog 43) (kwd := []) Lw.ob_eq
    (by kernel_rfl) (fun s => by kernel_rfl) Lw.run (by kernel_rfl) (by kernel_rfl) (by kernel_rfl) (by rfl) (by first | assumption | decide +kernel) (by decide +kernel) ⟨rfl, rfl, rfl, rfl, rfl, by decide +kernel⟩ ?hw ?hc
  case hw => w_witness2
  case hc =>
    refine VL.walk_ofV (l := PySem.Challenge.rw_restward_k63_numbers_written) (n := 63) (k := 6) (x := "_law_script") rfl (by decide) (by kernel_rfl) ⟨rfl, by decide, by decide⟩ ?F
    intro w mg fa h Y G hmg0
    obtain ⟨K, KX, c⟩ := Y
    have hmg : mg ("law" : PySem.Str) = some (.ref fa) := by
      have e : (HandSHeadRun.topDef (OpenLaw.row PySem.Challenge.rw_restward_k63_numbers_written).prog 43).name = ("law" : PySem.Str) := by kernel_rfl
      rw [← e]
      exact hmg0
    obtain ⟨fd, hb, hF⟩ := Lw.fin (P := (PySem.Challenge.rw_restward_k63_numbers_written).prog) (Wd := w) KX G hmg c.t.d c.more
    exact ⟨K, fd, Lw.F_law K, KX, hb, Lw.law_of c.more, hF⟩

