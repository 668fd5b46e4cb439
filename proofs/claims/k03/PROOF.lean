import PyProof.Rows.All
import Wide.All
import OpenK.AllK
import Wide.FinOn
import HandS.ForMost
import HandS.Slots
import HandS.SlotsOwn
import HandS.ForExc
import HandS.CallSlots
import HandS.TupAny
import HandS.IsInst
import HandS.Records
import HandS.Walk
import HandS.Flow
import HandS.TryMany
import HandS.ExcIs
import HandS.ExcField
import PyProof.InstEq
import HandS.TupLe
import PySem.Challenge.RW_cutproof_k03_interval_order
set_option Elab.async false
set_option linter.all false
set_option maxRecDepth 100000
set_option maxHeartbeats 4000000
namespace EV
open PySem PySem.Spec PyProof.Rows L2

inductive T where
  | non | bl (b : Bool) | int (i : Int) | str (s : Str) | tup (ts : List T) | lst (ts : List T)
  | dic (ks : List (Key × T)) | dit (ks : List (List Key × T)) | inst (c : Nat) (vs : List T) | scr (ns : List Int) | rcd (c : Nat) (fs : List (Str × T)) | obj (n : Nat)
  deriving BEq

/-! the classes' numbers -/
abbrev kInterval : Nat := 0
abbrev kCutError : Nat := 1
abbrev kApart : Nat := 2
abbrev kBadPlace : Nat := 3
abbrev kBadTable : Nat := 4
abbrev kBadRow : Nat := 5
abbrev kNoRow : Nat := 6
abbrev kBadMarks : Nat := 7
abbrev kNoTest : Nat := 8
abbrev kNoReading : Nat := 9
abbrev kMismatch : Nat := 10
abbrev kTooMany : Nat := 11
abbrev kBadStep : Nat := 12
abbrev kBadLine : Nat := 13
abbrev kNoTable : Nat := 14
abbrev kWrongColumns : Nat := 15
abbrev kTable : Nat := 16
abbrev kCut : Nat := 17
abbrev kPlan : Nat := 18
abbrev kFinding : Nat := 19
abbrev kLeak : Nat := 20
abbrev kDifference : Nat := 21
abbrev kOrder : Nat := 22
structure Gx where
  K : PySem.W.Frag
  cs : Nat → Addr
  ex : Option (Addr × Value × Option Addr) := none

mutual
def Fz (g : Gx) (F : Hp) (μ : List Addr) : T → V → Prop
  | .non, v => v = .non
  | .bl b, v => v = .bl b
  | .int i, v => v = .int i
  | .str s, v => v = .str s
  | .tup ts, v => ∃ a vs, v = .ref a ∧ SqT g.K F a vs ∧ FzL g F μ ts vs
  | .lst ts, v => ∃ a vs, v = .ref a ∧ F a = some (.lst vs) ∧ FzL g F μ ts vs
  | .scr ns, v => ∃ a, v = .ref a ∧ SqL g.K F a (ns.map V.int)
  | .dic ks, v => ∃ a vs, v = .ref a ∧ F a = some (.dK vs) ∧ FzK g F μ ks vs
  | .dit ks, v => ∃ a vs, v = .ref a ∧ F a = some (.dT vs) ∧ FzT g F μ ks vs
  | .inst c ts, v => ∃ a dx vs, v = .ref a ∧ F a = some (SlX.SlO a (g.cs c) dx (vs.map some)) ∧ F dx = some (.xd []) ∧ FzL g F μ ts vs
  | .rcd c fs, v => ∃ a dx vs, v = .ref a ∧ F a = some (.ins (g.cs c) dx vs) ∧ F dx = some (.own a) ∧ FzF g F μ fs vs
  | .obj n, v => ∃ a, v = .ref a ∧ μ[n]? = some a
def FzL (g : Gx) (F : Hp) (μ : List Addr) : List T → List V → Prop
  | [], vs => vs = []
  | t :: ts, vs => ∃ v r, vs = v :: r ∧ Fz g F μ t v ∧ FzL g F μ ts r
def FzK (g : Gx) (F : Hp) (μ : List Addr) : List (Key × T) → List (Key × V) → Prop
  | [], vs => vs = []
  | (k, t) :: ts, vs => ∃ v r, vs = (k, v) :: r ∧ Fz g F μ t v ∧ FzK g F μ ts r
def FzT (g : Gx) (F : Hp) (μ : List Addr) : List (List Key × T) → List (List Key × V) → Prop
  | [], vs => vs = []
  | (k, t) :: ts, vs => ∃ v r, vs = (k, v) :: r ∧ Fz g F μ t v ∧ FzT g F μ ts r
def FzF (g : Gx) (F : Hp) (μ : List Addr) : List (Str × T) → List (Str × V) → Prop
  | [], vs => vs = []
  | (k, t) :: ts, vs => ∃ v r, vs = (k, v) :: r ∧ Fz g F μ t v ∧ FzF g F μ ts r
end
end EV

namespace EV
open PySem PySem.Spec PyProof.Rows L2

def Sub (F F' : Hp) : Prop := ∀ a o, F a = some o → F' a = some o
def Pre (μ μ' : List Addr) : Prop := ∀ (n : Nat) (a : Addr), μ[n]? = some a → μ'[n]? = some a
theorem Sub.refl (F : Hp) : Sub F F := fun _ _ h => h
theorem Sub.trans {F G H : Hp} (a : Sub F G) (b : Sub G H) : Sub F H := fun _ _ h => b _ _ (a _ _ h)
theorem Pre.refl (μ : List Addr) : Pre μ μ := fun _ _ h => h
theorem Pre.trans {F G H : List Addr} (a : Pre F G) (b : Pre G H) : Pre F H := fun _ _ h => b _ _ (a _ _ h)
theorem rd_sub {F F' : Hp} {a : Addr} {u : HO} (s : Sub F F') (h : Rd F a u) : Rd F' a u := by
  rcases h with h | ⟨o, h⟩
  · exact .inl (s _ _ h)
  · exact .inr ⟨o, s _ _ h⟩
theorem sqL_sub {K F F' a xs} (s : Sub F F') (h : SqL K F a xs) : SqL K F' a xs := by
  rcases h with h | h
  · exact .inl (rd_sub s h)
  · exact .inr h
theorem sqT_sub {K F F' a xs} (s : Sub F F') (h : SqT K F a xs) : SqT K F' a xs := by
  rcases h with h | h
  · exact .inl (rd_sub s h)
  · exact .inr h

mutual
theorem Fz.mono {g : Gx} {F F' : Hp} {μ μ' : List Addr} (s : Sub F F') (p : Pre μ μ') : ∀ {t : T} {v : V}, Fz g F μ t v → Fz g F' μ' t v
  | .non, v, h => h
  | .bl b, v, h => h
  | .int i, v, h => h
  | .str x, v, h => h
  | .tup ts, v, h => let ⟨a, vs, e, q, r⟩ := h; ⟨a, vs, e, sqT_sub s q, FzL.mono s p r⟩
  | .lst ts, v, h => let ⟨a, vs, e, q, r⟩ := h; ⟨a, vs, e, s _ _ q, FzL.mono s p r⟩
  | .scr ns, v, h => let ⟨a, e, q⟩ := h; ⟨a, e, sqL_sub s q⟩
  | .dic ts, v, h => let ⟨a, vs, e, q, r⟩ := h; ⟨a, vs, e, s _ _ q, FzK.mono s p r⟩
  | .dit ts, v, h => let ⟨a, vs, e, q, r⟩ := h; ⟨a, vs, e, s _ _ q, FzT.mono s p r⟩
  | .inst c ts, v, h => let ⟨a, dx, vs, e, q, q2, r⟩ := h; ⟨a, dx, vs, e, s _ _ q, s _ _ q2, FzL.mono s p r⟩
  | .rcd c ts, v, h => let ⟨a, dx, vs, e, q, q2, r⟩ := h; ⟨a, dx, vs, e, s _ _ q, s _ _ q2, FzF.mono s p r⟩
  | .obj n, v, h => let ⟨a, e, q⟩ := h; ⟨a, e, p _ _ q⟩
theorem FzL.mono {g : Gx} {F F' : Hp} {μ μ' : List Addr} (s : Sub F F') (p : Pre μ μ') : ∀ {t : List T} {v : List V}, FzL g F μ t v → FzL g F' μ' t v
  | [], v, h => h
  | t :: ts, v, h => let ⟨x, r, e, a, b⟩ := h; ⟨x, r, e, Fz.mono s p a, FzL.mono s p b⟩
theorem FzK.mono {g : Gx} {F F' : Hp} {μ μ' : List Addr} (s : Sub F F') (p : Pre μ μ') : ∀ {t : List (Key × T)} {v : List (Key × V)}, FzK g F μ t v → FzK g F' μ' t v
  | [], v, h => h
  | (k, t) :: ts, v, h => let ⟨x, r, e, a, b⟩ := h; ⟨x, r, e, Fz.mono s p a, FzK.mono s p b⟩
theorem FzT.mono {g : Gx} {F F' : Hp} {μ μ' : List Addr} (s : Sub F F') (p : Pre μ μ') : ∀ {t : List (List Key × T)} {v : List (List Key × V)}, FzT g F μ t v → FzT g F' μ' t v
  | [], v, h => h
  | (k, t) :: ts, v, h => let ⟨x, r, e, a, b⟩ := h; ⟨x, r, e, Fz.mono s p a, FzT.mono s p b⟩
theorem FzF.mono {g : Gx} {F F' : Hp} {μ μ' : List Addr} (s : Sub F F') (p : Pre μ μ') : ∀ {t : List (Str × T)} {v : List (Str × V)}, FzF g F μ t v → FzF g F' μ' t v
  | [], v, h => h
  | (k, t) :: ts, v, h => let ⟨x, r, e, a, b⟩ := h; ⟨x, r, e, Fz.mono s p a, FzF.mono s p b⟩
end

/-- what a changing container holds -/
def Box (g : Gx) (F : Hp) (μ : List Addr) (H : Hp) (t : T) (a : Addr) : Prop :=
  match t with
  | .lst ts => ∃ vs, H a = some (.lst vs) ∧ FzL g F μ ts vs
  | .dic ks => ∃ vs, H a = some (.dK vs) ∧ FzK g F μ ks vs
  | .dit ks => ∃ vs, H a = some (.dT vs) ∧ FzT g F μ ks vs
  | _ => False

structure Ob where
  c : Nat
  fs : List (Str × T)
abbrev Store := List Ob
structure RelS (g : Gx) (F : Hp) (μ : List Addr) (S : Store) (H : Hp) : Prop where
  len : S.length = μ.length
  nd : μ.Nodup
  at_ : ∀ (n : Nat) (a : Addr), μ[n]? = some a → ∃ ob dx vs, S[n]? = some ob ∧ H a = some (.ins (g.cs ob.c) dx vs) ∧ F a = none ∧ FzF g F μ ob.fs vs

structure Ext (F : Hp) (μ : List Addr) (H F' : Hp) (μ' : List Addr) (H' : Hp) : Prop where
  fr : Sub F F'
  new : ∀ a o, F' a = some o → F a = some o ∨ H a = none
  pre : Pre μ μ'
  obn : ∀ a ∈ μ', a ∈ μ ∨ H a = none
  kp : ∀ a o, H a = some o → a ∈ μ ∨ H' a = some o

structure Exc where
  c : Nat
  fs : List (Str × T)
inductive Sl where
  | no | val (t : T) | own (t : T) | bor (t : T) | exc (x : Exc)
structure C0 where
  F : Hp
  μ : List Addr
  H : Hp
def SlR (g : Gx) (c : C0) (F : Hp) (μ : List Addr) (H : Hp) : Sl → Option V → Prop
  | .no, _ => True
  | .val t, o => ∃ v, o = some v ∧ Fz g F μ t v
  | .own t, o => ∃ a, o = some (.ref a) ∧ Box g F μ H t a ∧ F a = none ∧ c.H a = none
  | .bor t, o => ∃ a, o = some (.ref a) ∧ Box g F μ H t a ∧ (c.H a = H a ∨ F a = H a)
  | .exc x, o => ∃ a cls d, g.ex = some (a, cls, d) ∧ o = some (.ref a) ∧ cls = .ref (g.cs x.c) ∧ ((x.fs = [] ∧ d = none) ∨ (x.fs ≠ [] ∧ ∃ dd vs, d = some dd ∧ F dd = some (.xd vs) ∧ FzF g F μ x.fs vs))

structure Cfg (g : Gx) (c : C0) (F : Hp) (μ : List Addr) (S : Store) (ρ : List Sl) (σ : L2.St) (H : Hp) : Prop where
  sub : Sub F H
  st : RelS g F μ S H
  ext : Ext c.F c.μ c.H F μ H
  sub0 : Sub c.F c.H
  st0 : ∀ a ∈ c.μ, ∃ C dx vs, c.H a = some (.ins C dx vs)
  len : ρ.length = σ.length
  sl : ∀ (i : Nat) (s : Sl) (o : Option V), ρ[i]? = some s → σ[i]? = some o → SlR g c F μ H s o
  ap : ∀ (i j : Nat) (t u : T) (a : Addr), ρ[i]? = some (.own t) → ρ[j]? = some (.own u) → σ[i]? = some (some (.ref a)) → σ[j]? = some (some (.ref a)) → i = j

inductive Kd where | frz | fresh | place
  deriving DecidableEq
structure R where
  k : Kd
  t : T
def RelR (g : Gx) (Hs F : Hp) (μ : List Addr) (H : Hp) (r : R) (v : V) : Prop :=
  match r.k with
  | .frz => Fz g F μ r.t v
  | .fresh => ∃ a, v = .ref a ∧ Box g F μ H r.t a ∧ F a = none ∧ Hs a = none
  | .place => ∃ a, v = .ref a ∧ Box g F μ H r.t a

theorem Ext.refl (F : Hp) (μ : List Addr) (H : Hp) : Ext F μ H F μ H := ⟨Sub.refl _, fun _ _ h => .inl h, Pre.refl _, fun _ h => .inl h, fun _ _ h => .inr h⟩

theorem RelS.ins {g F μ S H} (r : RelS g F μ S H) {a : Addr} (h : a ∈ μ) : ∃ C dx vs, H a = some (.ins C dx vs) ∧ F a = none := by
  obtain ⟨n, hn⟩ := List.mem_iff_getElem?.mp h
  obtain ⟨ob, dx, vs, _, e, f, _⟩ := r.at_ n a hn
  exact ⟨_, dx, vs, e, f⟩

theorem Pre.mem {μ μ' : List Addr} (p : Pre μ μ') {a : Addr} (h : a ∈ μ) : a ∈ μ' := by
  obtain ⟨n, hn⟩ := List.mem_iff_getElem?.mp h
  exact List.mem_iff_getElem?.mpr ⟨n, p _ _ hn⟩

/-- nothing there before, nothing there at the start -/
theorem Ext.nil0 {g F μ H F' μ' S' H'} (x : Ext F μ H F' μ' H') (st : RelS g F' μ' S' H') {a : Addr} (h : H' a = none) : H a = none := by
  cases e : H a with
  | none => rfl
  | some o =>
    rcases x.kp a o e with m | q
    · obtain ⟨_, _, _, q, _⟩ := st.ins (x.pre.mem m)
      rw [h] at q; cases q
    · rw [h] at q; cases q

theorem Ext.trans {g F μ H F1 μ1 S1 H1 F2 μ2 H2} (a : Ext F μ H F1 μ1 H1) (st : RelS g F1 μ1 S1 H1) (b : Ext F1 μ1 H1 F2 μ2 H2) : Ext F μ H F2 μ2 H2 where
  fr := a.fr.trans b.fr
  new := fun x o h => by
    rcases b.new x o h with h | h
    · exact a.new x o h
    · exact .inr (a.nil0 st h)
  pre := a.pre.trans b.pre
  obn := fun x h => by
    rcases b.obn x h with h | h
    · exact a.obn x h
    · exact .inr (a.nil0 st h)
  kp := fun x o h0 => by
    rcases a.kp x o h0 with h | h
    · exact .inl h
    · rcases b.kp x o h with q | q
      · rcases a.obn x q with q | q
        · exact .inl q
        · rw [q] at h0; cases h0
      · exact .inr q

theorem Box.ne_mem {g F μ S H t a} (b : Box g F μ H t a) (st : RelS g F μ S H) : a ∉ μ := fun m => by
  obtain ⟨C, dx, vs, e, _⟩ := st.ins m
  cases t <;> try exact b.elim
  all_goals (obtain ⟨vs, e', _⟩ := b; rw [e] at e'; cases e')
theorem Box.has {g F μ H t a} (b : Box g F μ H t a) : ∃ o, H a = some o := by
  cases t <;> try exact b.elim
  all_goals (obtain ⟨vs, e', _⟩ := b; exact ⟨_, e'⟩)
theorem Box.mono' {g F μ H F' μ' H' t a} (s : Sub F F') (p : Pre μ μ') (e : ∀ o, H a = some o → H' a = some o) (b : Box g F μ H t a) : Box g F' μ' H' t a := by
  cases t <;> try exact b.elim
  · obtain ⟨vs, h, r⟩ := b; exact ⟨vs, e _ h, FzL.mono s p r⟩
  · obtain ⟨vs, h, r⟩ := b; exact ⟨vs, e _ h, FzK.mono s p r⟩
  · obtain ⟨vs, h, r⟩ := b; exact ⟨vs, e _ h, FzT.mono s p r⟩
theorem Box.mono {g F μ S H F' μ' H' t a} (st : RelS g F μ S H) (x : Ext F μ H F' μ' H') (b : Box g F μ H t a) : Box g F' μ' H' t a := by
  have nm := b.ne_mem st
  exact b.mono' x.fr x.pre fun o e => (x.kp a o e).resolve_left nm

theorem RelR.mono {g Hs F μ S H F' μ' H' r v} (st : RelS g F μ S H) (x : Ext F μ H F' μ' H') (h : RelR g Hs F μ H r v) : RelR g Hs F' μ' H' r v := by
  obtain ⟨k, t⟩ := r
  cases k with
  | frz => exact Fz.mono x.fr x.pre h
  | fresh =>
    obtain ⟨a, e, b, f, hs⟩ := h
    refine ⟨a, e, b.mono st x, ?_, hs⟩
    cases q : F' a with
    | none => rfl
    | some o =>
      obtain ⟨u, hu⟩ := b.has
      rcases x.new a o q with z | z
      · rw [f] at z; cases z
      · rw [hu] at z; cases z
  | place => obtain ⟨a, e, b⟩ := h; exact ⟨a, e, b.mono st x⟩
theorem RelR.start {g H0 H1 F μ H r v} (k : ∀ a, H1 a = none → H0 a = none) (h : RelR g H1 F μ H r v) : RelR g H0 F μ H r v := by
  obtain ⟨kk, t⟩ := r
  cases kk with
  | frz => exact h
  | fresh => obtain ⟨a, e, b, f, hs⟩ := h; exact ⟨a, e, b, f, k _ hs⟩
  | place => exact h

/-- a part is laid fast: from here on it never changes -/
def froz (F H : Hp) (a : Addr) : Hp := fun b => if b = a then H a else F b
theorem froz_same {F H : Hp} {a : Addr} : froz F H a a = H a := if_pos rfl
theorem froz_ne {F H : Hp} {a b : Addr} (h : b ≠ a) : froz F H a b = F b := if_neg h
theorem froz_sub {F H : Hp} {a : Addr} (f : F a = none) : Sub F (froz F H a) := fun b o e => by
  rw [froz_ne (fun z => by rw [z, f] at e; cases e)]; exact e
theorem froz_le {F H : Hp} {a : Addr} (s : Sub F H) : Sub (froz F H a) H := fun b o e => by
  by_cases z : b = a
  · rw [z, froz_same] at e; rw [z]; exact e
  · rw [froz_ne z] at e; exact s _ _ e
theorem Box.fz {g F μ H t a} (b : Box g F μ H t a) (f : F a = none) : Fz g (froz F H a) μ t (.ref a) := by
  have p := Pre.refl μ
  have s : Sub F (froz F H a) := froz_sub f
  cases t <;> try exact b.elim
  · obtain ⟨vs, h, r⟩ := b; exact ⟨a, vs, rfl, by rw [froz_same]; exact h, FzL.mono s p r⟩
  · obtain ⟨vs, h, r⟩ := b; exact ⟨a, vs, rfl, by rw [froz_same]; exact h, FzK.mono s p r⟩
  · obtain ⟨vs, h, r⟩ := b; exact ⟨a, vs, rfl, by rw [froz_same]; exact h, FzT.mono s p r⟩

theorem RelS.mono {g F μ S H F' } (st : RelS g F μ S H) (s : Sub F F') (k : ∀ a ∈ μ, F' a = none) : RelS g F' μ S H :=
  ⟨st.len, st.nd, fun n a h => by
    obtain ⟨ob, dx, vs, e1, e2, e3, e4⟩ := st.at_ n a h
    exact ⟨ob, dx, vs, e1, e2, k a (List.mem_of_getElem? h), FzF.mono s (Pre.refl _) e4⟩⟩

/-- the start's state and what has been made since -/
theorem Cfg.freeze {g c F1 μ1 S1 H1 F μ S ρ σ H a t} (C1 : Cfg g c F1 μ1 S1 ρ σ H1) (C : Cfg g c F μ S ρ σ H) (x : Ext F1 μ1 H1 F μ H) (b : Box g F μ H t a) (f : F a = none) (hs : H1 a = none) :
    Cfg g c (froz F H a) μ S ρ σ H ∧ Ext F1 μ1 H1 (froz F H a) μ H := by
  have s : Sub F (froz F H a) := froz_sub f
  have am : a ∉ μ := b.ne_mem C.st
  have h0 : c.H a = none := C1.ext.nil0 C1.st hs
  refine ⟨⟨froz_le C.sub, C.st.mono s fun y hy => ?_, ⟨C.ext.fr.trans s, fun y o e => ?_, C.ext.pre, C.ext.obn, C.ext.kp⟩, C.sub0, C.st0, C.len, fun i sl o e1 e2 => ?_, C.ap⟩, ⟨x.fr.trans s, fun y o e => ?_, x.pre, x.obn, x.kp⟩⟩
  · rw [froz_ne (fun z => am (by rw [← z]; exact hy))]
    obtain ⟨_, _, _, _, q⟩ := C.st.ins hy
    exact q
  · by_cases z : y = a
    · rw [z]; exact .inr h0
    · rw [froz_ne z] at e; exact C.ext.new y o e
  · have q := C.sl i sl o e1 e2
    cases sl with
    | no => trivial
    | val t => obtain ⟨v, e, z⟩ := q; exact ⟨v, e, Fz.mono s (Pre.refl _) z⟩
    | own t =>
      obtain ⟨y, e, z, z2, z3⟩ := q
      have : y ≠ a := fun w => by
        obtain ⟨y', e', w1, _, _⟩ := C1.sl i (.own t) o e1 e2
        rw [e] at e'; cases e'
        obtain ⟨u, hu⟩ := w1.has
        rw [w, hs] at hu; cases hu
      exact ⟨y, e, z.mono' s (Pre.refl _) fun _ h => h, by rw [froz_ne this]; exact z2, z3⟩
    | bor t =>
      obtain ⟨y, e, z, z2⟩ := q
      obtain ⟨u, hu⟩ := z.has
      exact ⟨y, e, z.mono' s (Pre.refl _) fun _ h => h, z2.imp id fun k => by rw [hu] at k ⊢; exact s _ _ k⟩
    | exc x => obtain ⟨y, cls, d, e1, e2, e3, e4⟩ := q; exact ⟨y, cls, d, e1, e2, e3, e4.imp id fun ⟨z0, dd, vs, z1, z2, z3⟩ => ⟨z0, dd, vs, z1, s _ _ z2, FzF.mono s (Pre.refl _) z3⟩⟩
  · by_cases z : y = a
    · rw [z]; exact .inr hs
    · rw [froz_ne z] at e; exact x.new y o e

/-- a value that may be kept -/
def R.kept (r : R) : Option T := match r.k with
  | .place => none
  | _ => some r.t
theorem Cfg.keep {g c F1 μ1 S1 H1 F μ S ρ σ H r t v} (C1 : Cfg g c F1 μ1 S1 ρ σ H1) (C : Cfg g c F μ S ρ σ H) (x : Ext F1 μ1 H1 F μ H) (h : RelR g H1 F μ H r v) (k : r.kept = some t) :
    ∃ F2, Cfg g c F2 μ S ρ σ H ∧ Ext F1 μ1 H1 F2 μ H ∧ Sub F F2 ∧ Fz g F2 μ t v := by
  obtain ⟨kk, u⟩ := r
  cases kk with
  | frz => cases k; exact ⟨F, C, x, Sub.refl _, h⟩
  | fresh =>
    cases k
    obtain ⟨a, rfl, b, f, hs⟩ := h
    obtain ⟨C2, x2⟩ := Cfg.freeze C1 C x b f hs
    exact ⟨_, C2, x2, froz_sub f, b.fz f⟩
  | place => cases k
end EV

namespace EV
open PySem PySem.Spec PyProof.Rows L2

inductive Res (α : Type) where
  | ok (a : α) (S : Store) | err (x : Exc) (S : Store) | stuck
def Res.bind {α β : Type} (m : Res α) (k : α → Store → Res β) : Res β := match m with
  | .ok a S => k a S
  | .err x S => .err x S
  | .stuck => .stuck
@[simp] theorem bind_ok {α β} (a : α) (S) (k : α → Store → Res β) : (Res.ok a S).bind k = k a S := rfl
@[simp] theorem bind_err {α β} (a) (S) (k : α → Store → Res β) : (Res.err a S).bind k = .err a S := rfl
@[simp] theorem bind_stuck {α β} (k : α → Store → Res β) : (Res.stuck).bind k = .stuck := rfl
abbrev CF (α : Type) := Store → List Sl → Res α
abbrev CE := CF R
abbrev CB := CF Bool
abbrev CA := CF (List R)

def ExR (g : Gx) (F : Hp) (μ : List Addr) (H : Hp) (x : Exc) (cls : Value) (d : Option Addr) : Prop :=
  cls = .ref (g.cs x.c) ∧ ((x.fs = [] ∧ d = none) ∨ (x.fs ≠ [] ∧ ∃ a vs, d = some a ∧ F a = some (.xd vs) ∧ FzF g F μ x.fs vs))
abbrev Rel (β ω : Type) := Hp → Hp → List Addr → Hp → β → ω → Prop
def RelB : Rel Bool Bool := fun _ _ _ _ b c => b = c
def RelRs (g : Gx) : Rel (List R) (List V) := fun Hs F μ H rs vs => Paired (fun r v => RelR g Hs F μ H r v) rs vs

structure Par where
  g : Gx
  W : WX
def PostG (p : Par) {β ω : Type} (rel : Rel β ω) (c : C0) (σ : L2.St) (ρ : List Sl) (F : Hp) (μ : List Addr) (H : Hp) (res : Res β) (Q : ω → Hp → Prop) : Prop := match res with
  | .ok r S' => ∀ v F' μ' H', Cfg p.g c F' μ' S' ρ σ H' → Ext F μ H F' μ' H' → rel H F' μ' H' r v → Q v H'
  | .err x S' => ∀ cls d F' μ' H', Cfg p.g c F' μ' S' ρ σ H' → ExR p.g F' μ' H' x cls d → p.W cls d σ H'
  | .stuck => False
def tG (p : Par) {β ω : Type} (rel : Rel β ω) (f : CF β) : L2.St → Hp → (ω → Hp → Prop) → Prop := fun σ H Q => ∃ c F μ S ρ, Cfg p.g c F μ S ρ σ H ∧ PostG p rel c σ ρ F μ H (f S ρ) Q
abbrev tOf (p : Par) (f : CE) : TE := tG p (RelR p.g) f
abbrev tOfB (p : Par) (f : CB) : TT := tG p RelB f
abbrev tOfA (p : Par) (f : CA) : TA := tG p (RelRs p.g) f
def EE (X : Cx) (p : Par) (e : Expr) (f : CE) : Prop := PE X e (tOf p f)
def EB (X : Cx) (p : Par) (e : Expr) (f : CB) : Prop := PW X e (tOfB p f)
def EA (X : Cx) (p : Par) (es : List Expr) (f : CA) : Prop := PA X es (tOfA p f)

def RS {β ω} (rel : Rel β ω) : Prop := ∀ H0 H1 F μ H r v, (∀ a, H1 a = none → H0 a = none) → rel H1 F μ H r v → rel H0 F μ H r v
theorem rsR (g : Gx) : RS (RelR g) := fun _ _ _ _ _ _ _ k h => RelR.start k h
theorem rsB : RS RelB := fun _ _ _ _ _ _ _ _ h => h
theorem paired_map {α β : Type} {F G : α → β → Prop} (f : ∀ a b, F a b → G a b) : ∀ {l : List α} {m : List β}, Paired F l m → Paired G l m
  | _, _, .nil => .nil
  | _, _, .cons r t => .cons (f _ _ r) (paired_map f t)
theorem rsRs (g : Gx) : RS (RelRs g) := fun _ _ _ _ _ _ _ k h => paired_map (fun _ _ x => RelR.start k x) h

theorem PostG.step {p : Par} {β ω} {rel : Rel β ω} (rs : RS rel) {c σ ρ F μ H res Q F1 μ1 S1 H1} (C1 : Cfg p.g c F1 μ1 S1 ρ σ H1) (x : Ext F μ H F1 μ1 H1) (h : PostG p rel c σ ρ F μ H res Q) : PostG p rel c σ ρ F1 μ1 H1 res Q := by
  cases res with
  | ok r S' => exact fun v F' μ' H' C' x' q => h v F' μ' H' C' (x.trans C1.st x') (rs _ _ _ _ _ _ _ (fun a e => x.nil0 C1.st e) q)
  | err y S' => exact fun cls d F' μ' H' C' q => h cls d F' μ' H' C' q
  | stuck => exact h

/-- the first part runs, then the rest -/
theorem tG.bind {p : Par} {β ω β' ω'} {rel : Rel β ω} {rel' : Rel β' ω'} (rs : RS rel') {f : CF β} {k : β → Store → Res β'} {c σ ρ F μ S H} {Q : ω → Hp → Prop} {Q' : ω' → Hp → Prop}
    (C : Cfg p.g c F μ S ρ σ H) (h : PostG p rel' c σ ρ F μ H ((f S ρ).bind k) Q')
    (next : ∀ r S1 v F1 μ1 H1, Cfg p.g c F1 μ1 S1 ρ σ H1 → Ext F μ H F1 μ1 H1 → rel H F1 μ1 H1 r v → PostG p rel' c σ ρ F1 μ1 H1 (k r S1) Q' → PostG p rel' c σ ρ F μ H (k r S1) Q' → Q v H1) : tG p rel f σ H Q := by
  refine ⟨c, F, μ, S, ρ, C, ?_⟩
  cases e : f S ρ with
  | ok r S1 =>
    rw [e] at h
    exact fun v F1 μ1 H1 C1 x1 q => next r S1 v F1 μ1 H1 C1 x1 q (PostG.step rs C1 x1 h) h
  | err y S1 => rw [e] at h; exact h
  | stuck => rw [e] at h; exact h

theorem PE.imp {X : Cx} {e : Expr} {t u : TE} (h : PE X e t) (k : ∀ σ H Q, u σ H Q → t σ H Q) : PE X e u := ⟨fun pins s σ H Q I q => h.run pins s σ H Q I (k _ _ _ q)⟩
theorem PW.imp {X : Cx} {e : Expr} {t u : TT} (h : PW X e t) (k : ∀ σ H Q, u σ H Q → t σ H Q) : PW X e u := ⟨fun w pins s σ H Q I q => h.run w pins s σ H Q I (k _ _ _ q)⟩
theorem PA.imp {X : Cx} {e : List Expr} {t u : TA} (h : PA X e t) (k : ∀ σ H Q, u σ H Q → t σ H Q) : PA X e u := ⟨fun w pins s σ H Q I q => h.run w pins s σ H Q I (k _ _ _ q)⟩

/-! ### new objects -/
section
variable {g : Gx} {c : C0} {F : Hp} {μ : List Addr} {S : Store} {ρ : List Sl} {σ : L2.St} {H : Hp} {a : Addr} {o : HO}
theorem Sub.upd (s : Sub F H) (h : H a = none) : Sub F (upd H a o) := fun b u e => by
  rw [upd_ne (ne_of_none (s _ _ e) h)]; exact s _ _ e
theorem kept_upd (h : H a = none) : ∀ b u, H b = some u → upd H a o b = some u := fun b u e => by rw [upd_ne (ne_of_none e h)]; exact e
theorem RelS.kept {H' : Hp} (st : RelS g F μ S H) (k : ∀ b u, H b = some u → H' b = some u) : RelS g F μ S H' :=
  ⟨st.len, st.nd, fun n b h => by
    obtain ⟨ob, dx, vs, e1, e2, e3, e4⟩ := st.at_ n b h
    exact ⟨ob, dx, vs, e1, k _ _ e2, e3, e4⟩⟩
theorem Ext.new1 (F : Hp) (μ : List Addr) (h : H a = none) : Ext F μ H F μ (L2.upd H a o) := ⟨Sub.refl _, fun _ _ e => .inl e, Pre.refl _, fun _ m => .inl m, fun b u e => .inr (kept_upd h b u e)⟩
theorem SlR.kept {F' H' : Hp} {s : Sl} {v : Option V} (fs : Sub F F') (fn : ∀ b u, F b = none → H b = some u → F' b = none) (k : ∀ b u, H b = some u → H' b = some u) (h : SlR g c F μ H s v) : SlR g c F' μ H' s v := by
  cases s with
  | no => trivial
  | val t => obtain ⟨v, e, q⟩ := h; exact ⟨v, e, Fz.mono fs (Pre.refl _) q⟩
  | own t =>
    obtain ⟨b, e, q, q2, q3⟩ := h
    obtain ⟨u, hu⟩ := q.has
    exact ⟨b, e, q.mono' fs (Pre.refl _) (fun o z => k b o z), fn b u q2 hu, q3⟩
  | bor t =>
    obtain ⟨b, e, q, q2⟩ := h
    obtain ⟨u, hu⟩ := q.has
    exact ⟨b, e, q.mono' fs (Pre.refl _) (fun o z => k b o z), q2.imp (fun q2 => by rw [q2, hu, k b u hu]) fun q2 => by rw [hu] at q2; rw [k b u hu]; exact fs _ _ q2⟩
  | exc x => obtain ⟨y, cls, d, e1, e2, e3, e4⟩ := h; exact ⟨y, cls, d, e1, e2, e3, e4.imp id fun ⟨z0, dd, vs, z1, z2, z3⟩ => ⟨z0, dd, vs, z1, fs _ _ z2, FzF.mono fs (Pre.refl _) z3⟩⟩
theorem Cfg.laid (C : Cfg g c F μ S ρ σ H) (h : H a = none) : Cfg g c F μ S ρ σ (upd H a o) ∧ Ext F μ H F μ (upd H a o) := by
  have x : Ext F μ H F μ (upd H a o) := Ext.new1 F μ h
  have st := C.st.kept (kept_upd (o := o) h)
  exact ⟨⟨C.sub.upd h, st, C.ext.trans C.st x, C.sub0, C.st0, C.len, fun i s v e1 e2 => (C.sl i s v e1 e2).kept (Sub.refl _) (fun _ _ e _ => e) (kept_upd h), C.ap⟩, x⟩
theorem Cfg.laidF (C : Cfg g c F μ S ρ σ H) (h : H a = none) : Cfg g c (upd F a o) μ S ρ σ (upd H a o) ∧ Ext F μ H (upd F a o) μ (upd H a o) := by
  have fa : F a = none := by
    cases e : F a with
    | none => rfl
    | some u => have := C.sub _ _ e; rw [h] at this; cases this
  have fs : Sub F (upd F a o) := kept_upd fa
  have x : Ext F μ H (upd F a o) μ (upd H a o) := ⟨fs, fun b u e => by
    by_cases z : b = a
    · rw [z]; exact .inr h
    · rw [upd_ne z] at e; exact .inl e, Pre.refl _, fun _ m => .inl m, fun b u e => .inr (kept_upd h b u e)⟩
  have st : RelS g (upd F a o) μ S (upd H a o) := (C.st.kept (kept_upd (o := o) h)).mono fs fun b m => by
    obtain ⟨_, _, _, e, f⟩ := C.st.ins m
    rw [upd_ne (ne_of_none e h)]; exact f
  exact ⟨⟨fun b u e => by
    by_cases z : b = a
    · rw [z, upd_same] at e; rw [z, upd_same]; exact e
    · rw [upd_ne z] at e; rw [upd_ne z]; exact C.sub _ _ e, st, C.ext.trans C.st x, C.sub0, C.st0, C.len, fun i s v e1 e2 => (C.sl i s v e1 e2).kept fs (fun b u e q => by rw [upd_ne (ne_of_none q h)]; exact e) (kept_upd h), C.ap⟩, x⟩
end

/-! ### names and constants -/
def cVar (i : Nat) : CE := fun S ρ => match ρ[i]? with
  | some (.val t) => .ok ⟨.frz, t⟩ S
  | some (.own t) => .ok ⟨.place, t⟩ S
  | some (.bor t) => .ok ⟨.place, t⟩ S
  | _ => .stuck
def cC (t : T) : CE := fun S _ => .ok ⟨.frz, t⟩ S
section
variable {X : Cx} {p : Par} {a b e : Expr} {fa fb : CE} {pos : Pos}
theorem e_var {i : Nat} {x : Str} (h : PE X (.Name x pos) (tVar i)) : EE X p (.Name x pos) (cVar i) := by
  refine PE.imp h fun σ H Q hh => ?_
  obtain ⟨c, F, μ, S, ρ, C, q⟩ := hh
  unfold cVar at q
  cases e : ρ[i]? with
  | none => rw [e] at q; exact q.elim
  | some s =>
    rw [e] at q
    have hi : i < σ.length := by rw [← C.len]; exact (List.getElem?_eq_some_iff.mp e).1
    have hs : σ[i]? = some σ[i] := List.getElem?_eq_getElem hi
    have r := C.sl i s _ e hs
    cases s with
    | no => exact q.elim
    | exc x => exact q.elim
    | val t => obtain ⟨v, e2, z⟩ := r; exact ⟨v, by rw [hs, e2], q v F μ H C (Ext.refl _ _ _) z⟩
    | own t => obtain ⟨y, e2, z, _⟩ := r; exact ⟨_, by rw [hs, e2], q _ F μ H C (Ext.refl _ _ _) ⟨y, rfl, z⟩⟩
    | bor t => obtain ⟨y, e2, z, _⟩ := r; exact ⟨_, by rw [hs, e2], q _ F μ H C (Ext.refl _ _ _) ⟨y, rfl, z⟩⟩
theorem e_const {t : T} {v : V} (hv : ∀ F μ, Fz p.g F μ t v) (h : PE X e (tC v)) : EE X p e (cC t) := by
  refine PE.imp h fun σ H Q hh => ?_
  obtain ⟨c, F, μ, S, ρ, C, q⟩ := hh
  exact q v F μ H C (Ext.refl _ _ _) (hv F μ)
theorem e_int {i : Int} {j} : EE X p (.Constant (.int i) j pos) (cC (.int i)) := e_const (fun _ _ => rfl) pe_int
theorem e_bl {i : Bool} {j} : EE X p (.Constant (.bool i) j pos) (cC (.bl i)) := e_const (fun _ _ => rfl) pe_bl
theorem e_str {i : Str} {j} : EE X p (.Constant (.str i) j pos) (cC (.str i)) := e_const (fun _ _ => rfl) pe_str
theorem e_non {j} : EE X p (.Constant .none j pos) (cC .non) := e_const (fun _ _ => rfl) pe_non
end

/-! ### two values -/
/-- what an operation on values gives -/
abbrev Bop := T → T → Option R
def OpS (g : Gx) (r : R2) (o : Bop) : Prop := ∀ c F1 μ1 S1 H1 F μ S ρ σ H (x y z : R) (v w : V) (Q : VK), Cfg g c F1 μ1 S1 ρ σ H1 → Cfg g c F μ S ρ σ H → Ext F1 μ1 H1 F μ H → RelR g H1 F μ H x v → RelR g H1 F μ H y w → o x.t y.t = some z →
  (∀ v' F' μ' H', Cfg g c F' μ' S ρ σ H' → Ext F μ H F' μ' H' → RelR g H F' μ' H' z v' → Q v' H') → r v w H Q
def bopR (o : Bop) (x y : R) (S : Store) : Res R := match o x.t y.t with
  | some r => .ok r S
  | none => .stuck
def cOp (o : Bop) (fa fb : CE) : CE := fun S ρ => (fa S ρ).bind fun x S1 => (fb S1 ρ).bind fun y S2 => bopR o x y S2
section
variable {X : Cx} {p : Par} {a b e : Expr} {fa fb : CE} {pos : Pos}
theorem tOp_of {r : R2} {o : Bop} (ho : OpS p.g r o) {σ H Q} (h : tOf p (cOp o fa fb) σ H Q) : tOp r (tOf p fa) (tOf p fb) σ H Q := by
  obtain ⟨c, F, μ, S, ρ, C, q⟩ := h
  refine tG.bind (rsR _) C q fun x S1 v F1 μ1 H1 C1 x1 r1 q1 q0 => ?_
  refine tG.bind (rsR _) C1 q1 fun y S2 w F2 μ2 H2 C2 x2 r2 q2 _ => ?_
  unfold bopR at q2
  cases e : o x.t y.t with
  | none => rw [e] at q2; exact q2.elim
  | some z =>
    rw [e] at q2
    exact ho c F μ S H F2 μ2 S2 ρ σ H2 x y z v w Q C C2 (x1.trans C1.st x2) (r1.mono C1.st x2) (r2.start fun a h => x1.nil0 C1.st h) e fun v' F' μ' H' C' x' r' => q2 v' F' μ' H' C' x' r'
theorem e_op {op : Operator} {r : R2} {o : Bop} (hr : OpR X (binaryOp op) r) (ho : OpS p.g r o) (ha : EE X p a fa) (hb : EE X p b fb) : EE X p (.BinOp a op b pos) (cOp o fa fb) :=
  PE.imp (pe_op hr ha hb) fun _ _ _ h => tOp_of ho h
theorem e_cmp {op : CmpOp} {r : R2} {o : Bop} (hr : OpR X (compareOp op) r) (ho : OpS p.g r o) (ha : EE X p a fa) (hb : EE X p b fb) (hm : behindInMarks op b = false) : EE X p (.Compare a [op] [b] pos) (cOp o fa fb) :=
  PE.imp (pe_cmpR hr ha hb hm) fun _ _ _ h => tOp_of ho h
end
theorem OpR.or {X : Cx} {f : Value → Value → Sem Value} {r1 r2 : R2} (h1 : OpR X f r1) (h2 : OpR X f r2) : OpR X f (fun x y H Q => r1 x y H Q ∨ r2 x y H Q) := fun pins s σ H x y v u Q I rx ry h => h.elim (h1 pins s σ H x y v u Q I rx ry) (h2 pins s σ H x y v u Q I rx ry)
end EV

namespace EV
open PySem PySem.Spec PyProof.Rows L2

/-! ### what a result's shape says -/
section
variable {g : Gx} {Hs F : Hp} {μ : List Addr} {H : Hp} {r : R} {v : V}
theorem RelR.flat (h : RelR g Hs F μ H r v) (n1 : ∀ ts, r.t ≠ .lst ts) (n2 : ∀ ts, r.t ≠ .dic ts) (n3 : ∀ ts, r.t ≠ .dit ts) : Fz g F μ r.t v := by
  obtain ⟨k, t⟩ := r
  cases k with
  | frz => exact h
  | fresh =>
    obtain ⟨a, _, b, _⟩ := h
    cases t <;> first | exact b.elim | exact absurd rfl (n1 _) | exact absurd rfl (n2 _) | exact absurd rfl (n3 _)
  | place =>
    obtain ⟨a, _, b⟩ := h
    cases t <;> first | exact b.elim | exact absurd rfl (n1 _) | exact absurd rfl (n2 _) | exact absurd rfl (n3 _)
theorem RelR.int {i} (h : RelR g Hs F μ H r v) (e : r.t = .int i) : v = .int i := by
  have q := h.flat (by rw [e]; intro _ z; cases z) (by rw [e]; intro _ z; cases z) (by rw [e]; intro _ z; cases z)
  rw [e] at q; exact q
theorem RelR.bl {i} (h : RelR g Hs F μ H r v) (e : r.t = .bl i) : v = .bl i := by
  have q := h.flat (by rw [e]; intro _ z; cases z) (by rw [e]; intro _ z; cases z) (by rw [e]; intro _ z; cases z)
  rw [e] at q; exact q
theorem RelR.str {i} (h : RelR g Hs F μ H r v) (e : r.t = .str i) : v = .str i := by
  have q := h.flat (by rw [e]; intro _ z; cases z) (by rw [e]; intro _ z; cases z) (by rw [e]; intro _ z; cases z)
  rw [e] at q; exact q
theorem RelR.non (h : RelR g Hs F μ H r v) (e : r.t = .non) : v = .non := by
  have q := h.flat (by rw [e]; intro _ z; cases z) (by rw [e]; intro _ z; cases z) (by rw [e]; intro _ z; cases z)
  rw [e] at q; exact q
theorem RelR.tup {ts} (h : RelR g Hs F μ H r v) (s : Sub F H) (e : r.t = .tup ts) : ∃ a vs, v = .ref a ∧ SqT g.K H a vs ∧ FzL g F μ ts vs := by
  have q := h.flat (by rw [e]; intro _ z; cases z) (by rw [e]; intro _ z; cases z) (by rw [e]; intro _ z; cases z)
  rw [e] at q
  obtain ⟨a, vs, e1, e2, e3⟩ := q
  exact ⟨a, vs, e1, sqT_sub s e2, e3⟩
theorem RelR.scr {ns} (h : RelR g Hs F μ H r v) (s : Sub F H) (e : r.t = .scr ns) : ∃ a, v = .ref a ∧ SqL g.K H a (ns.map V.int) := by
  have q := h.flat (by rw [e]; intro _ z; cases z) (by rw [e]; intro _ z; cases z) (by rw [e]; intro _ z; cases z)
  rw [e] at q
  obtain ⟨a, e1, e2⟩ := q
  exact ⟨a, e1, sqL_sub s e2⟩
theorem RelR.lst {ts} (h : RelR g Hs F μ H r v) (s : Sub F H) (e : r.t = .lst ts) : ∃ a vs, v = .ref a ∧ H a = some (.lst vs) ∧ FzL g F μ ts vs := by
  obtain ⟨k, t⟩ := r
  cases e
  cases k with
  | frz => obtain ⟨a, vs, e1, e2, e3⟩ := h; exact ⟨a, vs, e1, s _ _ e2, e3⟩
  | fresh => obtain ⟨a, e1, ⟨vs, e2, e3⟩, _⟩ := h; exact ⟨a, vs, e1, e2, e3⟩
  | place => obtain ⟨a, e1, ⟨vs, e2, e3⟩⟩ := h; exact ⟨a, vs, e1, e2, e3⟩
theorem FzL.length : ∀ {ts : List T} {vs : List V}, FzL g F μ ts vs → ts.length = vs.length
  | [], vs, h => by have h : vs = [] := h; rw [h]; rfl
  | t :: ts, vs, h => by obtain ⟨v, r, e, _, q⟩ := h; rw [e, List.length_cons, List.length_cons, FzL.length q]
theorem FzL.get : ∀ {ts : List T} {vs : List V} {i : Nat} {t : T}, FzL g F μ ts vs → ts[i]? = some t → ∃ v, vs[i]? = some v ∧ Fz g F μ t v
  | [], vs, i, t, h, e => by simp at e
  | x :: ts, vs, 0, t, h, e => by obtain ⟨v, r, rfl, q, _⟩ := h; simp at e; subst e; exact ⟨v, rfl, q⟩
  | x :: ts, vs, i + 1, t, h, e => by
    obtain ⟨v, r, rfl, _, q⟩ := h
    obtain ⟨u, h1, h2⟩ := FzL.get (i := i) (t := t) q (by simpa using e)
    exact ⟨u, by simpa using h1, h2⟩
theorem FzL.get' : ∀ {ts : List T} {vs : List V} {i : Nat} {v : V}, FzL g F μ ts vs → vs[i]? = some v → ∃ t, ts[i]? = some t ∧ Fz g F μ t v := fun {ts vs i v} h e => by
  have hi : i < ts.length := by rw [h.length]; exact (List.getElem?_eq_some_iff.mp e).1
  have e2 : ts[i]? = some ts[i] := List.getElem?_eq_getElem hi
  obtain ⟨u, h1, h2⟩ := h.get e2
  rw [e] at h1; cases h1
  exact ⟨_, e2, h2⟩
theorem FzL.append : ∀ {ts us : List T} {vs ws : List V}, FzL g F μ ts vs → FzL g F μ us ws → FzL g F μ (ts ++ us) (vs ++ ws)
  | [], us, vs, ws, h, q => by have h : vs = [] := h; rw [h]; exact q
  | x :: ts, us, vs, ws, h, q => by obtain ⟨v, r, rfl, a, b⟩ := h; exact ⟨v, r ++ ws, rfl, a, FzL.append b q⟩
theorem FzL.ints : ∀ (ns : List Int), FzL g F μ (ns.map T.int) (ns.map V.int)
  | [] => rfl
  | n :: ns => ⟨_, _, rfl, rfl, FzL.ints ns⟩
end

/-! ### ints -/
def oIc (c : Int → Int → Bool) (f : Int → Int → T) : Bop := fun x y => match x, y with
  | .int i, .int j => if c i j then some ⟨.frz, f i j⟩ else none
  | _, _ => none
def oI (f : Int → Int → T) : Bop := fun x y => match x, y with
  | .int i, .int j => some ⟨.frz, f i j⟩
  | _, _ => none
section
variable {g : Gx}
theorem ops_rIc {C : Int → Int → Prop} {c : Int → Int → Bool} {gv : Int → Int → V} {f : Int → Int → T} (hc : ∀ i j, c i j = true → C i j) (hf : ∀ i j F μ, Fz g F μ (f i j) (gv i j)) : OpS g (rI C gv) (oIc c f) := by
  intro c0 F1 μ1 S1 H1 F μ S ρ σ H x y z v w Q C1 C2 xx r1 r2 e k
  unfold oIc at e
  split at e
  · rename_i i j e1 e2
    split at e
    · rename_i hcc
      cases e
      exact ⟨i, j, r1.int e1, r2.int e2, hc _ _ hcc, k _ F μ H C2 (Ext.refl _ _ _) (hf _ _ _ _)⟩
    · cases e
  · cases e
theorem ops_rI0 {gv : Int → Int → V} {f : Int → Int → T} (hf : ∀ i j F μ, Fz g F μ (f i j) (gv i j)) : OpS g (rI0 gv) (oI f) := by
  intro c0 F1 μ1 S1 H1 F μ S ρ σ H x y z v w Q C1 C2 xx r1 r2 e k
  unfold oI at e
  split at e
  · rename_i i j e1 e2
    cases e
    exact ⟨i, j, r1.int e1, r2.int e2, k _ F μ H C2 (Ext.refl _ _ _) (hf _ _ _ _)⟩
  · cases e
def oSub : Bop := oI fun i j => .int (i - j)
def oLt : Bop := oI fun i j => .bl (decide (i < j))
def oLe : Bop := oI fun i j => .bl (decide (i ≤ j))
def oGt : Bop := oI fun i j => .bl (decide (j < i))
def oGe : Bop := oI fun i j => .bl (decide (j ≤ i))
def oFd : Bop := oIc (fun _ j => decide (j ≠ 0) && decide (j.natAbs < 1073741824)) fun i j => .int (i.fdiv j)
def oMod : Bop := oIc (fun _ j => decide (j ≠ 0)) fun i j => .int (i.fmod j)
def oPow : Bop := oIc (fun i j => decide (0 ≤ j) && decide (j ≤ 1000000) && decide (i.natAbs < 2 ^ 64)) fun i j => .int (i ^ j.toNat)
def oMul : Bop := oIc (fun i j => (decide (-(2 ^ 64) < i) && decide (i < 2 ^ 64)) || (decide (-(2 ^ 64) < j) && decide (j < 2 ^ 64))) fun i j => .int (i * j)
def oAdd : Bop := fun x y => match x, y with
  | .int i, .int j => some ⟨.frz, .int (i + j)⟩
  | .str i, .str j => if i.length + j.length ≤ sizeLine then some ⟨.frz, .str (i ++ j)⟩ else none
  | .tup a, .tup b => if a.length + b.length ≤ sizeLine then some ⟨.frz, .tup (a ++ b)⟩ else none
  | .lst a, .lst b => if a.length + b.length ≤ sizeLine then some ⟨.fresh, .lst (a ++ b)⟩ else none
  | _, _ => none
def rAddT (K : PySem.W.Frag) : R2 := fun x y H Q => (∃ i j, x = .int i ∧ y = .int j ∧ Q (.int (i + j)) H) ∨ (∃ i j, x = .str i ∧ y = .str j ∧ i.length + j.length ≤ sizeLine ∧ Q (.str (i ++ j)) H) ∨ rCatA K x y H Q ∨ rCat x y H Q
theorem op_addT {X : Cx} : OpR X (binaryOp .Add) (rAddT X.K) := op_add.or (op_add_str.or (op_catA.or op_cat))
end
end EV
#print L2.rCatA
#check @L2.op_lt
#check @L2.op_gt
#check @L2.op_ge

namespace EV
open PySem PySem.Spec PyProof.Rows L2

theorem ops_addT {g : Gx} : OpS g (rAddT g.K) oAdd := by
  intro c0 F1 μ1 S1 H1 F μ S ρ σ H x y z v w Q C1 C2 xx r1 r2 e k
  unfold oAdd at e
  split at e
  · rename_i i j e1 e2
    cases e
    exact .inl ⟨i, j, r1.int e1, r2.int e2, k _ F μ H C2 (Ext.refl _ _ _) rfl⟩
  · rename_i i j e1 e2
    split at e
    · rename_i hl
      cases e
      exact .inr (.inl ⟨i, j, r1.str e1, r2.str e2, hl, k _ F μ H C2 (Ext.refl _ _ _) rfl⟩)
    · cases e
  · rename_i a b e1 e2
    split at e
    · rename_i hl
      cases e
      obtain ⟨p1, vs, rfl, t1, f1⟩ := r1.tup C2.sub e1
      obtain ⟨p2, ws, rfl, t2, f2⟩ := r2.tup C2.sub e2
      have g1 := r1.flat (by rw [e1]; intro _ z; cases z) (by rw [e1]; intro _ z; cases z) (by rw [e1]; intro _ z; cases z)
      have g2 := r2.flat (by rw [e2]; intro _ z; cases z) (by rw [e2]; intro _ z; cases z) (by rw [e2]; intro _ z; cases z)
      rw [e1] at g1; rw [e2] at g2
      refine .inr (.inr (.inl ⟨p1, p2, vs, ws, rfl, rfl, t1, t2, by rw [← f1.length, ← f2.length]; exact hl, fun z => ?_, fun z z2 => ?_, fun z z2 p hp => ?_⟩))
      · have : a = [] := List.length_eq_zero_iff.mp (by rw [f1.length, z]; rfl)
        subst this
        exact k _ F μ H C2 (Ext.refl _ _ _) g2
      · have : b = [] := List.length_eq_zero_iff.mp (by rw [f2.length, z2]; rfl)
        subst this
        refine k _ F μ H C2 (Ext.refl _ _ _) ?_
        rw [List.append_nil]
        exact g1
      · obtain ⟨C3, x3⟩ := C2.laidF (a := p) (o := .tup (vs ++ ws)) hp
        exact k _ _ _ _ C3 x3 ⟨p, vs ++ ws, rfl, .inl (.inl upd_same), FzL.mono x3.fr x3.pre (f1.append f2)⟩
    · cases e
  · rename_i a b e1 e2
    split at e
    · rename_i hl
      cases e
      obtain ⟨p1, vs, rfl, t1, f1⟩ := r1.lst C2.sub e1
      obtain ⟨p2, ws, rfl, t2, f2⟩ := r2.lst C2.sub e2
      refine .inr (.inr (.inr ⟨p1, p2, vs, ws, rfl, rfl, t1, t2, by rw [← f1.length, ← f2.length]; exact hl, fun p hp => ?_⟩))
      obtain ⟨C3, x3⟩ := C2.laid (a := p) (o := .lst (vs ++ ws)) hp
      refine k _ _ _ _ C3 x3 ⟨p, rfl, ⟨_, upd_same, f1.append f2⟩, ?_, hp⟩
      cases q : F p with
      | none => rfl
      | some o => have := C2.sub _ _ q; rw [hp] at this; cases this
    · cases e
  · cases e

/-! ### equality of data -/
mutual
def toD : T → Option PyData
  | .non => some .none
  | .bl b => some (.bool b)
  | .int i => some (.int i)
  | .str s => some (.str s)
  | .tup ts => (toDs ts).map .tuple
  | .lst ts => (toDs ts).map .list
  | _ => none
def toDs : List T → Option (List PyData)
  | [] => some []
  | t :: ts => match toD t, toDs ts with
    | some d, some ds => some (d :: ds)
    | _, _ => none
end
mutual
theorem Fz.dp {g : Gx} {F : Hp} {μ : List Addr} {H : Hp} (s : Sub F H) : ∀ {t : T} {v : V} {d : PyData}, Fz g F μ t v → toD t = some d → Dp g.K H v d
  | .non, v, d, h, e => by cases e; cases h; exact .non
  | .bl b, v, d, h, e => by cases e; cases h; exact .bl b
  | .int b, v, d, h, e => by cases e; cases h; exact .int b
  | .str b, v, d, h, e => by cases e; cases h; exact .str b
  | .tup ts, v, d, h, e => by
    obtain ⟨a, vs, rfl, q, r⟩ := h
    unfold toD at e
    obtain ⟨ds, e1, rfl⟩ := Option.map_eq_some_iff.mp e
    exact .tup (sqT_sub s q) (FzL.dp s r e1)
  | .lst ts, v, d, h, e => by
    obtain ⟨a, vs, rfl, q, r⟩ := h
    unfold toD at e
    obtain ⟨ds, e1, rfl⟩ := Option.map_eq_some_iff.mp e
    exact .lst (.inl (.inl (s _ _ q))) (FzL.dp s r e1)
  | .dic ts, v, d, h, e => by unfold toD at e; cases e
  | .dit ts, v, d, h, e => by unfold toD at e; cases e
  | .inst c ts, v, d, h, e => by unfold toD at e; cases e
  | .rcd c ts, v, d, h, e => by unfold toD at e; cases e
  | .scr ts, v, d, h, e => by unfold toD at e; cases e
  | .obj n, v, d, h, e => by unfold toD at e; cases e
theorem FzL.dp {g : Gx} {F : Hp} {μ : List Addr} {H : Hp} (s : Sub F H) : ∀ {t : List T} {v : List V} {d : List PyData}, FzL g F μ t v → toDs t = some d → DpAll g.K H v d
  | [], v, d, h, e => by have h : v = [] := h; subst h; unfold toDs at e; cases e; exact .nil
  | t :: ts, v, d, h, e => by
    obtain ⟨x, r, rfl, a, b⟩ := h
    unfold toDs at e
    split at e
    · rename_i d1 ds e1 e2
      cases e
      exact .cons (Fz.dp s a e1) (FzL.dp s b e2)
    · cases e
end
theorem RelR.dp {g : Gx} {Hs F : Hp} {μ : List Addr} {H : Hp} {r : R} {v : V} {d} (h : RelR g Hs F μ H r v) (s : Sub F H) (e : toD r.t = some d) : Dp g.K H v d := by
  cases q : r.t with
  | lst ts =>
    obtain ⟨a, vs, rfl, e1, e2⟩ := h.lst s q
    rw [q] at e
    unfold toD at e
    obtain ⟨ds, e3, rfl⟩ := Option.map_eq_some_iff.mp e
    exact .lst (.inl (.inl e1)) (FzL.dp s e2 e3)
  | dic ts => rw [q] at e; unfold toD at e; cases e
  | dit ts => rw [q] at e; unfold toD at e; cases e
  | _ => exact Fz.dp s (h.flat (by rw [q]; intro _ z; cases z) (by rw [q]; intro _ z; cases z) (by rw [q]; intro _ z; cases z)) e
/-- == of data -/
def eqT (x y : T) : Option Bool := match toD x, toD y with
  | some d, some e => if SeqAt.shaped d && SeqAt.shaped e then some (PyData.eqv d e) else none
  | _, _ => none
def oEq : Bop := fun x y => (eqT x y).map fun b => ⟨.frz, .bl b⟩
def oNe : Bop := fun x y => (eqT x y).map fun b => ⟨.frz, .bl (!b)⟩
theorem eqT_dp {g : Gx} {Hs Hs' F : Hp} {μ : List Addr} {H : Hp} {x y : R} {v w : V} {b} (r1 : RelR g Hs F μ H x v) (r2 : RelR g Hs' F μ H y w) (s : Sub F H) (e : eqT x.t y.t = some b) :
    ∃ d e, Dp g.K H v d ∧ Dp g.K H w e ∧ SeqAt.shaped d = true ∧ SeqAt.shaped e = true ∧ PyData.eqv d e = b := by
  unfold eqT at e
  split at e
  · rename_i d d2 e1 e2
    split at e
    · rename_i hs
      rw [Bool.and_eq_true] at hs
      exact ⟨d, d2, r1.dp s e1, r2.dp s e2, hs.1, hs.2, Option.some.inj e⟩
    · cases e
  · cases e
theorem ops_eq {g : Gx} : OpS g (rEqD g.K) oEq := by
  intro c0 F1 μ1 S1 H1 F μ S ρ σ H x y z v w Q C1 C2 xx r1 r2 e k
  unfold oEq at e
  obtain ⟨b, e', rfl⟩ := Option.map_eq_some_iff.mp e
  obtain ⟨d, d2, a1, a2, a3, a4, a5⟩ := eqT_dp r1 r2 C2.sub e'
  exact ⟨d, d2, a1, a2, a3, a4, by rw [a5]; exact k _ F μ H C2 (Ext.refl _ _ _) rfl⟩
theorem ops_ne {g : Gx} : OpS g (rNeD g.K) oNe := by
  intro c0 F1 μ1 S1 H1 F μ S ρ σ H x y z v w Q C1 C2 xx r1 r2 e k
  unfold oNe at e
  obtain ⟨b, e', rfl⟩ := Option.map_eq_some_iff.mp e
  obtain ⟨d, d2, a1, a2, a3, a4, a5⟩ := eqT_dp r1 r2 C2.sub e'
  exact ⟨d, d2, a1, a2, a3, a4, by rw [a5]; exact k _ F μ H C2 (Ext.refl _ _ _) rfl⟩

/-! ### tests -/
def truT : T → Option Bool
  | .non => some false
  | .bl b => some b
  | .int i => some (i != 0)
  | .str s => if s.length ≤ sizeLine then some ((s.length : Int) != 0) else none
  | .tup ts => some !ts.isEmpty
  | .lst ts => some !ts.isEmpty
  | .scr ts => some !ts.isEmpty
  | .dic ts => some !ts.isEmpty
  | _ => none
def truR (r : R) (S : Store) : Res Bool := match truT r.t with
  | some b => .ok b S
  | none => .stuck
def cTru (f : CE) : CB := fun S ρ => (f S ρ).bind truR
theorem isEmpty_len {α β : Type} {l : List α} {m : List β} (h : l.length = m.length) : l.isEmpty = m.isEmpty := by
  cases l <;> cases m <;> simp_all
theorem FzK.isEmpty {g F μ} : ∀ {ts : List (Key × T)} {vs : List (Key × V)}, FzK g F μ ts vs → ts.isEmpty = vs.isEmpty
  | [], vs, h => by have h : vs = [] := h; rw [h]; rfl
  | (k, t) :: ts, vs, h => by obtain ⟨v, r, e, _⟩ := h; rw [e]; rfl
theorem truV_of {g : Gx} {Hs F : Hp} {μ : List Addr} {H : Hp} {r : R} {v : V} {b : Bool} (h : RelR g Hs F μ H r v) (s : Sub F H) (e : truT r.t = some b) : TruV g.K v H b := by
  cases q : r.t with
  | non => rw [q] at e; cases e; rw [h.non q]; exact rfl
  | bl c => rw [q] at e; cases e; rw [h.bl q]; exact rfl
  | int c => rw [q] at e; cases e; rw [h.int q]; exact rfl
  | str c =>
    rw [q] at e; rw [h.str q]
    have e : (if c.length ≤ sizeLine then some ((c.length : Int) != 0) else none) = some b := e
    split at e
    · rename_i hl; cases e; exact ⟨hl, rfl⟩
    · cases e
  | tup ts => rw [q] at e; cases e; obtain ⟨a, vs, rfl, h1, h2⟩ := h.tup s q; exact .inr (.inl ⟨vs, h1, by rw [isEmpty_len h2.length]⟩)
  | lst ts => rw [q] at e; cases e; obtain ⟨a, vs, rfl, h1, h2⟩ := h.lst s q; exact .inl ⟨vs, .inl (.inl h1), by rw [isEmpty_len h2.length]⟩
  | scr ts => rw [q] at e; cases e; obtain ⟨a, rfl, h1⟩ := h.scr s q; exact .inl ⟨_, h1, by rw [isEmpty_len (List.length_map V.int)]⟩
  | dic ts =>
    rw [q] at e; cases e
    obtain ⟨k, t⟩ := r
    cases q
    cases k with
    | frz => obtain ⟨a, vs, rfl, h1, h2⟩ := h; exact .inr (.inr ⟨vs, s _ _ h1, by rw [h2.isEmpty]⟩)
    | fresh => obtain ⟨a, rfl, ⟨vs, h1, h2⟩, _⟩ := h; exact .inr (.inr ⟨vs, h1, by rw [h2.isEmpty]⟩)
    | place => obtain ⟨a, rfl, ⟨vs, h1, h2⟩⟩ := h; exact .inr (.inr ⟨vs, h1, by rw [h2.isEmpty]⟩)
  | _ => rw [q] at e; cases e
def EB' (X : Cx) (p : Par) (e : Expr) (f : CB) : Prop := PT X e (tOfB p f)
theorem PT.imp {X : Cx} {e : Expr} {t u : TT} (h : PT X e t) (k : ∀ σ H Q, u σ H Q → t σ H Q) : PT X e u := ⟨fun pins s σ H Q I q => h.run pins s σ H Q I (k _ _ _ q)⟩

def cAnd (f g : CB) : CB := fun S ρ => (f S ρ).bind fun b S1 => if b = true then g S1 ρ else .ok false S1
def cOr (f g : CB) : CB := fun S ρ => (f S ρ).bind fun b S1 => if b = true then .ok true S1 else g S1 ρ
def cNot (f : CB) : CB := fun S ρ => (f S ρ).bind fun b S1 => .ok (!b) S1
def cB (f : CB) : CE := fun S ρ => (f S ρ).bind fun b S1 => .ok ⟨.frz, .bl b⟩ S1
/-- a value that is a bool -/
def asB (r : R) (S : Store) : Res Bool := match r.t with
  | .bl b => .ok b S
  | _ => .stuck
def cAsB (f : CE) : CB := fun S ρ => (f S ρ).bind asB
def cAndV (f : CE) (g : CE) : CE := fun S ρ => (f S ρ).bind fun r S1 => (asB r S1).bind fun b S2 => if b = true then g S2 ρ else .ok ⟨.frz, .bl false⟩ S2
def cOrV (f : CE) (g : CE) : CE := fun S ρ => (f S ρ).bind fun r S1 => (asB r S1).bind fun b S2 => if b = true then .ok ⟨.frz, .bl true⟩ S2 else g S2 ρ
def cNotV (f : CE) : CE := fun S ρ => (f S ρ).bind fun r S1 => (asB r S1).bind fun b S2 => .ok ⟨.frz, .bl (!b)⟩ S2
def cIf (c : CB) (f g : CE) : CE := fun S ρ => (c S ρ).bind fun b S1 => if b = true then f S1 ρ else g S1 ρ

section
variable {X : Cx} {p : Par} {a b e : Expr} {fa fb : CE} {ga gb : CB} {pos : Pos} {rest : List Expr}
theorem b_tru (hK : X.K = p.g.K) (ha : EE X p a fa) (he : ∀ whole, isTrue a X.env whole = (do let v ← whole; standAt a.pos; holding [v] (truthy v)) := by intro _; rfl) : EB' X p a (cTru fa) := by
  refine PT.imp (pt_truth ha he) fun σ H Q h => ?_
  obtain ⟨c, F, μ, S, ρ, C, q⟩ := h
  refine tG.bind rsB C q fun x S1 v F1 μ1 H1 C1 x1 r1 q1 _ => ?_
  unfold truR at q1
  cases e : truT x.t with
  | none => rw [e] at q1; exact q1.elim
  | some b => rw [e] at q1; rw [hK]; exact ⟨b, truV_of r1 C1.sub e, q1 b F1 μ1 H1 C1 (Ext.refl _ _ _) rfl⟩
theorem asB_ok {c σ ρ F μ H β ω} {rel : Rel β ω} {x : R} {S : Store} {k : Bool → Store → Res β} {Q} {g : Gx} {Hs v} (r : RelR g Hs F μ H x v) (h : PostG p rel c σ ρ F μ H ((asB x S).bind k) Q) : ∃ b, v = .bl b ∧ PostG p rel c σ ρ F μ H (k b S) Q := by
  unfold asB at h
  split at h
  · rename_i b e; exact ⟨b, r.bl e, h⟩
  · exact h.elim
theorem tTest_of {t : TE} {f : CE} (hi : ∀ σ H Q, tOf p f σ H Q → t σ H Q) {σ H Q} (h : tOfB p (cAsB f) σ H Q) : tTest t σ H Q := by
  obtain ⟨c, F, μ, S, ρ, C, q⟩ := h
  refine hi _ _ _ (tG.bind rsB C q fun x S1 v F1 μ1 H1 C1 x1 r1 q1 _ => ?_)
  unfold asB at q1
  split at q1
  · rename_i b e
    exact ⟨b, r1.bl e, q1 b F1 μ1 H1 C1 (Ext.refl _ _ _) rfl⟩
  · exact q1.elim
theorem b_cmp {op : CmpOp} {r : R2} {o : Bop} (hr : OpR X (compareOp op) r) (ho : OpS p.g r o) (ha : EE X p a fa) (hb : EE X p b fb) (hm : behindInMarks op b = false) : EB' X p (.Compare a [op] [b] pos) (cAsB (cOp o fa fb)) :=
  PT.imp (pt_cmpR hr ha hb hm) fun _ _ _ h => tTest_of (fun _ _ _ z => tOp_of ho z) h
theorem b_not (ha : EB' X p a ga) : EB' X p (.UnaryOp .Not a pos) (cNot ga) := by
  refine PT.imp (pt_not ha) fun σ H Q h => ?_
  obtain ⟨c, F, μ, S, ρ, C, q⟩ := h
  exact tG.bind rsB C q fun b S1 v F1 μ1 H1 C1 x1 r1 q1 _ => by cases r1; exact q1 _ F1 μ1 H1 C1 (Ext.refl _ _ _) rfl
theorem w_and1 (ha : EB' X p a ga) : EB X p (.BoolOp .And [a] pos) ga := pw_and1 ha
theorem w_or1 (ha : EB' X p a ga) : EB X p (.BoolOp .Or [a] pos) ga := pw_or1 ha
theorem w_and (ha : EB' X p a ga) (hb : EB X p (.BoolOp .And (b :: rest) pos) gb) : EB X p (.BoolOp .And (a :: b :: rest) pos) (cAnd ga gb) := by
  refine PW.imp (pw_and ha hb) fun σ H Q h => ?_
  obtain ⟨c, F, μ, S, ρ, C, q⟩ := h
  refine tG.bind rsB C q fun b S1 v F1 μ1 H1 C1 x1 r1 q1 _ => ?_
  cases r1
  cases b with
  | true => exact ⟨c, F1, μ1, S1, ρ, C1, q1⟩
  | false => exact q1 _ F1 μ1 H1 C1 (Ext.refl _ _ _) rfl
theorem w_or (ha : EB' X p a ga) (hb : EB X p (.BoolOp .Or (b :: rest) pos) gb) : EB X p (.BoolOp .Or (a :: b :: rest) pos) (cOr ga gb) := by
  refine PW.imp (pw_or ha hb) fun σ H Q h => ?_
  obtain ⟨c, F, μ, S, ρ, C, q⟩ := h
  refine tG.bind rsB C q fun b S1 v F1 μ1 H1 C1 x1 r1 q1 _ => ?_
  cases r1
  cases b with
  | false => exact ⟨c, F1, μ1, S1, ρ, C1, q1⟩
  | true => exact q1 _ F1 μ1 H1 C1 (Ext.refl _ _ _) rfl
theorem b_w (h : EB X p a ga) : EB' X p a ga := PW.pt h
theorem e_one {op} (h : EE X p a fa) : EE X p (.BoolOp op [a] pos) fa := pe_one h
theorem e_and (ha : EE X p a fa) (hb : EE X p (.BoolOp .And (b :: rest) pos) fb) : EE X p (.BoolOp .And (a :: b :: rest) pos) (cAndV fa fb) := by
  refine PE.imp (pe_and ha hb) fun σ H Q h => ?_
  obtain ⟨c, F, μ, S, ρ, C, q⟩ := h
  refine tG.bind (rsR _) C q fun x S1 v F1 μ1 H1 C1 x1 r1 q1 _ => ?_
  obtain ⟨b, rfl, q2⟩ := asB_ok r1 q1
  refine ⟨b, rfl, ?_⟩
  cases b with
  | true => exact ⟨c, F1, μ1, S1, ρ, C1, q2⟩
  | false => exact q2 _ F1 μ1 H1 C1 (Ext.refl _ _ _) rfl
theorem e_or (ha : EE X p a fa) (hb : EE X p (.BoolOp .Or (b :: rest) pos) fb) : EE X p (.BoolOp .Or (a :: b :: rest) pos) (cOrV fa fb) := by
  refine PE.imp (pe_or ha hb) fun σ H Q h => ?_
  obtain ⟨c, F, μ, S, ρ, C, q⟩ := h
  refine tG.bind (rsR _) C q fun x S1 v F1 μ1 H1 C1 x1 r1 q1 _ => ?_
  obtain ⟨b, rfl, q2⟩ := asB_ok r1 q1
  refine ⟨b, rfl, ?_⟩
  cases b with
  | false => exact ⟨c, F1, μ1, S1, ρ, C1, q2⟩
  | true => exact q2 _ F1 μ1 H1 C1 (Ext.refl _ _ _) rfl
theorem e_not (ha : EE X p a fa) : EE X p (.UnaryOp .Not a pos) (cNotV fa) := by
  refine PE.imp (pe_not ha) fun σ H Q h => ?_
  obtain ⟨c, F, μ, S, ρ, C, q⟩ := h
  refine tG.bind (rsR _) C q fun x S1 v F1 μ1 H1 C1 x1 r1 q1 _ => ?_
  obtain ⟨b, rfl, q2⟩ := asB_ok r1 q1
  exact ⟨b, rfl, q2 _ F1 μ1 H1 C1 (Ext.refl _ _ _) rfl⟩
theorem e_if {c : Expr} (hc : EB' X p c ga) (ha : EE X p a fa) (hb : EE X p b fb) : EE X p (.IfExp c a b pos) (cIf ga fa fb) := by
  refine PE.imp (pe_ifExp hc ha hb) fun σ H Q h => ?_
  obtain ⟨c, F, μ, S, ρ, C, q⟩ := h
  refine tG.bind (rsR _) C q fun b S1 v F1 μ1 H1 C1 x1 r1 q1 _ => ?_
  cases r1
  cases b with
  | true => exact ⟨c, F1, μ1, S1, ρ, C1, q1⟩
  | false => exact ⟨c, F1, μ1, S1, ρ, C1, q1⟩
end
end EV

namespace EV
open PySem PySem.Spec PyProof.Rows L2

/-! ### arguments -/
def R.settle (r : R) : R := match r.k with
  | .fresh => ⟨.frz, r.t⟩
  | _ => r
def cNil : CA := fun S _ => .ok [] S
def cCons (f : CE) (k : CA) : CA := fun S ρ => (f S ρ).bind fun x S1 => (k S1 ρ).bind fun xs S2 => .ok (x.settle :: xs) S2
theorem settle_ok {g c F1 μ1 S1 H1 F μ S ρ σ H r v} (C1 : Cfg g c F1 μ1 S1 ρ σ H1) (C : Cfg g c F μ S ρ σ H) (x : Ext F1 μ1 H1 F μ H) (h : RelR g H1 F μ H r v) :
    ∃ F2, Cfg g c F2 μ S ρ σ H ∧ Ext F1 μ1 H1 F2 μ H ∧ Sub F F2 ∧ RelR g H1 F2 μ H r.settle v := by
  obtain ⟨k, t⟩ := r
  cases k with
  | frz => exact ⟨F, C, x, Sub.refl _, h⟩
  | place => exact ⟨F, C, x, Sub.refl _, h⟩
  | fresh =>
    obtain ⟨F2, C2, x2, s2, z⟩ := Cfg.keep C1 C x h rfl
    exact ⟨F2, C2, x2, s2, z⟩
theorem settle_ne (r : R) : r.settle.k ≠ .fresh := by
  obtain ⟨k, t⟩ := r
  cases k <;> exact fun z => nomatch z
theorem RelR.any {g Hs Hs' F μ H r v} (n : r.k ≠ .fresh) (h : RelR g Hs F μ H r v) : RelR g Hs' F μ H r v := by
  obtain ⟨k, t⟩ := r
  cases k with
  | frz => exact h
  | fresh => exact absurd rfl n
  | place => exact h
section
variable {X : Cx} {p : Par} {a b e : Expr} {es : List Expr} {fa fb fc : CE} {k : CA} {ga gb : CB} {pos : Pos}
theorem a_nil : EA X p [] cNil := by
  refine PA.imp pa_nil fun σ H Q h => ?_
  obtain ⟨c, F, μ, S, ρ, C, q⟩ := h
  exact q [] F μ H C (Ext.refl _ _ _) .nil
theorem a_cons (ha : EE X p e fa) (hr : EA X p es k) (hs : starEach (e :: es) X.env = (false, eval e X.env) :: starEach es X.env := by rfl) : EA X p (e :: es) (cCons fa k) := by
  refine PA.imp (pa_cons ha hr hs) fun σ H Q h => ?_
  obtain ⟨c, F, μ, S, ρ, C, q⟩ := h
  refine tG.bind (rsRs _) C q fun x S1 v F1 μ1 H1 C1 x1 r1 _ q1 => ?_
  obtain ⟨F2, C2, x2, s2, r2⟩ := settle_ok C C1 x1 r1
  refine tG.bind (rsRs _) C2 (PostG.step (rsRs _) C2 x2 q1) fun xs S3 vs F3 μ3 H3 C3 x3 r3 _ q3 => ?_
  exact q3 (v :: vs) F3 μ3 H3 C3 x3 (.cons ((r2.mono C2.st x3).any (settle_ne x)) r3)

/-! ### displays -/
def allF : List R → Option (List T)
  | [] => some []
  | r :: rs => match r.k, allF rs with
    | .frz, some ts => some (r.t :: ts)
    | _, _ => none
theorem allF_fz {g Hs F μ H} : ∀ {rs : List R} {vs : List V} {ts}, RelRs g Hs F μ H rs vs → allF rs = some ts → FzL g F μ ts vs
  | _, _, ts, .nil, e => by cases e; rfl
  | _, _, ts, .cons (a := r) (b := v) h q, e => by
    unfold allF at e
    split at e
    · rename_i e1 e2
      cases e
      refine ⟨_, _, rfl, ?_, allF_fz q e2⟩
      obtain ⟨k, t⟩ := r
      cases e1
      exact h
    · cases e
def mkTup (rs : List R) (S : Store) : Res R := match allF rs with
  | some ts => if ts.length ≤ sizeLine then .ok ⟨.frz, .tup ts⟩ S else .stuck
  | none => .stuck
def mkLst (rs : List R) (S : Store) : Res R := match allF rs with
  | some ts => if ts.length ≤ sizeLine then .ok ⟨.fresh, .lst ts⟩ S else .stuck
  | none => .stuck
def cTup (k : CA) : CE := fun S ρ => (k S ρ).bind mkTup
def cLst (k : CA) : CE := fun S ρ => (k S ρ).bind mkLst
theorem e_tup {x1} (h : EA X p es k) : EE X p (.Tuple es x1 pos) (cTup k) := by
  refine PE.imp (pe_tup h) fun σ H Q hh => ?_
  obtain ⟨c, F, μ, S, ρ, C, q⟩ := hh
  refine tG.bind (rsR _) C q fun xs S1 vs F1 μ1 H1 C1 x1 r1 q1 _ => ?_
  unfold mkTup at q1
  split at q1
  · rename_i ts e
    split at q1
    · rename_i hl
      have z := allF_fz r1 e
      refine ⟨by rw [← z.length]; exact hl, fun a ha => ?_⟩
      obtain ⟨C3, x3⟩ := C1.laidF (a := a) (o := .tup vs) ha
      exact q1 _ _ _ _ C3 x3 ⟨a, vs, rfl, .inl (.inl upd_same), FzL.mono x3.fr x3.pre z⟩
    · exact q1.elim
  · exact q1.elim
theorem Cfg.free {g c F μ S ρ σ H a} (C : Cfg g c F μ S ρ σ H) (h : H a = none) : F a = none := by
  cases q : F a with
  | none => rfl
  | some o => have := C.sub _ _ q; rw [h] at this; cases this
theorem e_lst (h : EA X p es k) : EE X p (.List es pos) (cLst k) := by
  refine PE.imp (pe_lst h) fun σ H Q hh => ?_
  obtain ⟨c, F, μ, S, ρ, C, q⟩ := hh
  refine tG.bind (rsR _) C q fun xs S1 vs F1 μ1 H1 C1 x1 r1 q1 _ => ?_
  unfold mkLst at q1
  split at q1
  · rename_i ts e
    split at q1
    · rename_i hl
      have z := allF_fz r1 e
      refine ⟨by rw [← z.length]; exact hl, fun a ha => ?_⟩
      obtain ⟨C3, x3⟩ := C1.laid (a := a) (o := .lst vs) ha
      exact q1 _ _ _ _ C3 x3 ⟨a, rfl, ⟨vs, upd_same, z⟩, C1.free ha, ha⟩
    · exact q1.elim
  · exact q1.elim

/-! ### calls of values that are known -/
abbrev Bcl := List T → Option R
def CalS (g : Gx) (r : List V → Hp → VK → Prop) (o : Bcl) : Prop := ∀ c F1 μ1 S1 H1 F μ S ρ σ H (xs : List R) (z : R) (vs : List V) (Q : VK), Cfg g c F1 μ1 S1 ρ σ H1 → Cfg g c F μ S ρ σ H → Ext F1 μ1 H1 F μ H → RelRs g H1 F μ H xs vs → o (xs.map R.t) = some z →
  (∀ v' F' μ' H', Cfg g c F' μ' S ρ σ H' → Ext F μ H F' μ' H' → RelR g H F' μ' H' z v' → Q v' H') → r vs H Q
def bclR (o : Bcl) (xs : List R) (S : Store) : Res R := match o (xs.map R.t) with
  | some r => .ok r S
  | none => .stuck
def cBcl (o : Bcl) (k : CA) : CE := fun S ρ => (k S ρ).bind (bclR o)
theorem tCB_of {r} {o : Bcl} (ho : CalS p.g r o) {σ H Q} (h : tOf p (cBcl o k) σ H Q) : tCB r (tOfA p k) σ H Q := by
  obtain ⟨c, F, μ, S, ρ, C, q⟩ := h
  refine tG.bind (rsR _) C q fun xs S1 vs F1 μ1 H1 C1 x1 r1 q1 _ => ?_
  unfold bclR at q1
  split at q1
  · rename_i z e
    exact ho c F μ S H F1 μ1 S1 ρ σ H1 xs z vs Q C C1 x1 r1 e q1
  · exact q1.elim
theorem e_blt {id : String} {x : Str} {p' : Pos} {r} {o : Bcl} (hc : CallR X (.builtin id) r) (ho : CalS p.g r o) (hg : Gl X x) (hm : X.mg x = none) (hv : bootBuiltins x = some (.builtin id)) (ha : EA X p (e :: es) k) (hn : x ≠ "__name__" := by decide) (hdb : (x == ("__debug__" : Str)) = false := by decide)
    (he : starEach (e :: es) X.env = (false, eval e X.env) :: starEach es X.env := by rfl) (hpl : (backTo pos (starEach es X.env)).any (·.1) = false := by rfl) : EE X p (.Call (.Name x p') (e :: es) [] pos) (cBcl o k) :=
  PE.imp (pe_callB hc hg hm hv ha hn hdb he hpl) fun _ _ _ h => tCB_of ho h
theorem e_bty {T' : String} {x : Str} {p' : Pos} {r} {o : Bcl} (hc : CallR X (.type T') r) (ho : CalS p.g r o) (hg : Gl X x) (hm : X.mg x = none) (hv : bootBuiltins x = some (.type T')) (ha : EA X p (e :: es) k) (hn : x ≠ "__name__" := by decide) (hdb : (x == ("__debug__" : Str)) = false := by decide)
    (he : starEach (e :: es) X.env = (false, eval e X.env) :: starEach es X.env := by rfl) (hpl : (backTo pos (starEach es X.env)).any (·.1) = false := by rfl) : EE X p (.Call (.Name x p') (e :: es) [] pos) (cBcl o k) :=
  PE.imp (pe_callTy hc hg hm hv ha hn hdb he hpl) fun _ _ _ h => tCB_of ho h
def oLen : Bcl := fun
  | [.str s] => if s.length ≤ sizeLine then some ⟨.frz, .int s.length⟩ else none
  | [.lst ts] => some ⟨.frz, .int ts.length⟩
  | [.tup ts] => some ⟨.frz, .int ts.length⟩
  | [.scr ts] => some ⟨.frz, .int ts.length⟩
  | _ => none
def rLen (K : PySem.W.Frag) : List V → Hp → VK → Prop := fun xs H Q => ∃ x n, xs = [x] ∧ LenV K x H n ∧ Q (.int n) H
theorem relRs1 {g Hs F μ H} {xs : List R} {vs t} (h : RelRs g Hs F μ H xs vs) (e : xs.map R.t = [t]) : ∃ x v, xs = [x] ∧ vs = [v] ∧ x.t = t ∧ RelR g Hs F μ H x v := by
  cases h with
  | nil => cases e
  | cons a b =>
    cases b with
    | nil => injection e with e1 _; exact ⟨_, _, rfl, rfl, e1, a⟩
    | cons _ _ => injection e with _ e2; cases e2
theorem relRs2 {g Hs F μ H} {xs : List R} {vs t u} (h : RelRs g Hs F μ H xs vs) (e : xs.map R.t = [t, u]) : ∃ x y v w, xs = [x, y] ∧ vs = [v, w] ∧ x.t = t ∧ y.t = u ∧ RelR g Hs F μ H x v ∧ RelR g Hs F μ H y w := by
  cases h with
  | nil => cases e
  | cons a b =>
    injection e with e1 e2
    obtain ⟨y, w, rfl, rfl, h1, h2⟩ := relRs1 b e2
    exact ⟨_, _, _, _, rfl, rfl, e1, h1, a, h2⟩
theorem cals_len {g : Gx} : CalS g (rLen g.K) oLen := by
  intro c F1 μ1 S1 H1 F μ S ρ σ H xs z vs Q C1 C xx r e k
  unfold oLen at e
  split at e
  · rename_i s h
    obtain ⟨x, v, rfl, rfl, h1, h2⟩ := relRs1 r h
    split at e
    · rename_i hl
      cases e
      exact ⟨v, _, rfl, by rw [h2.str h1]; exact ⟨hl, rfl⟩, k _ F μ H C (Ext.refl _ _ _) rfl⟩
    · cases e
  · rename_i ts h
    obtain ⟨x, v, rfl, rfl, h1, h2⟩ := relRs1 r h
    cases e
    obtain ⟨a, us, rfl, h3, h4⟩ := h2.lst C.sub h1
    exact ⟨_, _, rfl, .inl ⟨us, .inl (.inl h3), h4.length⟩, k _ F μ H C (Ext.refl _ _ _) rfl⟩
  · rename_i ts h
    obtain ⟨x, v, rfl, rfl, h1, h2⟩ := relRs1 r h
    cases e
    obtain ⟨a, us, rfl, h3, h4⟩ := h2.tup C.sub h1
    exact ⟨_, _, rfl, .inr ⟨us, h3, h4.length⟩, k _ F μ H C (Ext.refl _ _ _) rfl⟩
  · rename_i ts h
    obtain ⟨x, v, rfl, rfl, h1, h2⟩ := relRs1 r h
    cases e
    obtain ⟨a, rfl, h3⟩ := h2.scr C.sub h1
    exact ⟨_, _, rfl, .inl ⟨_, h3, (List.length_map V.int).symm⟩, k _ F μ H C (Ext.refl _ _ _) rfl⟩
  · cases e
def oInt : Bcl := fun
  | [.int i] => some ⟨.frz, .int i⟩
  | [.bl b] => some ⟨.frz, .int (if b then 1 else 0)⟩
  | _ => none
theorem cals_int {g : Gx} : CalS g (fun xs H Q => (∃ i, xs = [.int i] ∧ Q (.int i) H) ∨ ∃ k, xs = [.bl k] ∧ Q (.int (if k then 1 else 0)) H) oInt := by
  intro c F1 μ1 S1 H1 F μ S ρ σ H xs z vs Q C1 C xx r e k
  unfold oInt at e
  split at e
  · rename_i s h
    obtain ⟨x, v, rfl, rfl, h1, h2⟩ := relRs1 r h
    cases e
    exact .inl ⟨_, by rw [h2.int h1], k _ F μ H C (Ext.refl _ _ _) rfl⟩
  · rename_i s h
    obtain ⟨x, v, rfl, rfl, h1, h2⟩ := relRs1 r h
    cases e
    exact .inr ⟨_, by rw [h2.bl h1], k _ F μ H C (Ext.refl _ _ _) rfl⟩
  · cases e
def oMax2 : Bcl := fun
  | [.int i, .int j] => some ⟨.frz, .int (if j > i then j else i)⟩
  | _ => none
def oMin2 : Bcl := fun
  | [.int i, .int j] => some ⟨.frz, .int (if j < i then j else i)⟩
  | _ => none
theorem cals_max2 {g : Gx} : CalS g (fun xs H Q => ∃ i j, xs = [.int i, .int j] ∧ Q (.int (if j > i then j else i)) H) oMax2 := by
  intro c F1 μ1 S1 H1 F μ S ρ σ H xs z vs Q C1 C xx r e k
  unfold oMax2 at e
  split at e
  · rename_i i j h
    obtain ⟨x, y, v, w, rfl, rfl, h1, h2, h3, h4⟩ := relRs2 r h
    cases e
    exact ⟨_, _, by rw [h3.int h1, h4.int h2], k _ F μ H C (Ext.refl _ _ _) rfl⟩
  · cases e
theorem cals_min2 {g : Gx} : CalS g (fun xs H Q => ∃ i j, xs = [.int i, .int j] ∧ Q (.int (if j < i then j else i)) H) oMin2 := by
  intro c F1 μ1 S1 H1 F μ S ρ σ H xs z vs Q C1 C xx r e k
  unfold oMin2 at e
  split at e
  · rename_i i j h
    obtain ⟨x, y, v, w, rfl, rfl, h1, h2, h3, h4⟩ := relRs2 r h
    cases e
    exact ⟨_, _, by rw [h3.int h1, h4.int h2], k _ F μ H C (Ext.refl _ _ _) rfl⟩
  · cases e

/-! ### two comparisons -/
def cChain (o o' : Bop) (fa fb fc : CE) : CE := fun S ρ => (fa S ρ).bind fun x S1 => (fb S1 ρ).bind fun y S2 => (bopR o x y S2).bind fun z S3 => (asB z S3).bind fun b S4 =>
  if b = true then (fc S4 ρ).bind fun w S5 => bopR o' y w S5 else .ok ⟨.frz, .bl false⟩ S4
theorem tChain_of {r r' : R2} {o o' : Bop} (ho : OpS p.g r o) (ho' : OpS p.g r' o') {σ H Q} (h : tOf p (cChain o o' fa fb fc) σ H Q) : tChain r r' (tOf p fa) (tOf p fb) (tOf p fc) σ H Q := by
  obtain ⟨c, F, μ, S, ρ, C, q⟩ := h
  refine tG.bind (rsR _) C q fun x S1 v F1 μ1 H1 C1 x1 r1 q1 _ => ?_
  refine tG.bind (rsR _) C1 q1 fun y S2 w F2 μ2 H2 C2 x2 r2 q2 _ => ?_
  have xx := x1.trans C1.st x2
  have q2' := q2
  unfold bopR at q2
  split at q2
  · rename_i z e
    refine ho c F μ S H F2 μ2 S2 ρ σ H2 x y z v w _ C C2 xx (r1.mono C1.st x2) (r2.start fun a h => x1.nil0 C1.st h) e fun v' F3 μ3 H3 C3 x3 r3 => ?_
    have q3 := PostG.step (rsR _) C3 x3 q2
    obtain ⟨b, rfl, q4⟩ := asB_ok r3 q3
    refine ⟨b, rfl, ?_⟩
    cases b with
    | false => exact q4 _ F3 μ3 H3 C3 (Ext.refl _ _ _) rfl
    | true =>
      refine tG.bind (rsR _) C3 q4 fun u S4 t F4 μ4 H4 C4 x4 r4 q5 _ => ?_
      unfold bopR at q5
      split at q5
      · rename_i z2 e2
        have y4 := xx.trans C2.st (x3.trans C3.st x4)
        exact ho' c F μ S H F4 μ4 S4 ρ σ H4 y u z2 w t Q C C4 y4 (((r2.mono C2.st x3).mono C3.st x4).start fun a h => x1.nil0 C1.st h) (r4.start fun a h => xx.nil0 C2.st (x3.nil0 C3.st h)) e2 q5
      · exact q5.elim
  · exact q2.elim
end
end EV

namespace EV
open PySem PySem.Spec PyProof.Rows L2

section
variable {X : Cx} {p : Par} {a b d e : Expr} {es : List Expr} {fa fb fc : CE} {k : CA} {ga gb : CB} {pos : Pos}
theorem e_chain {op op' : CmpOp} {r r' : R2} {o o' : Bop} (hr : OpR X (compareOp op) r) (hr' : OpR X (compareOp op') r') (ho : OpS p.g r o) (ho' : OpS p.g r' o') (ha : EE X p a fa) (hb : EE X p b fb) (hc : EE X p d fc)
    (hm : lastMarks [op, op'] [b, d] = false := by with_unfolding_all rfl) : EE X p (.Compare a [op, op'] [b, d] pos) (cChain o o' fa fb fc) :=
  PE.imp (pe_chain hr hr' ha hb hc hm) fun _ _ _ h => tChain_of ho ho' h
theorem b_chain {op op' : CmpOp} {r r' : R2} {o o' : Bop} (hr : OpR X (compareOp op) r) (hr' : OpR X (compareOp op') r') (ho : OpS p.g r o) (ho' : OpS p.g r' o') (ha : EE X p a fa) (hb : EE X p b fb) (hc : EE X p d fc)
    (hm : lastMarks [op, op'] [b, d] = false := by with_unfolding_all rfl) : EB' X p (.Compare a [op, op'] [b, d] pos) (cAsB (cChain o o' fa fb fc)) :=
  PT.imp (pt_chain hr hr' ha hb hc hm) fun _ _ _ h => tTest_of (fun _ _ _ z => tChain_of ho ho' z) h

/-! ### one value -/
abbrev Uop := T → Option R
def UnS (g : Gx) (r : V → Hp → VK → Prop) (o : Uop) : Prop := ∀ c F1 μ1 S1 H1 F μ S ρ σ H (x z : R) (v : V) (Q : VK), Cfg g c F1 μ1 S1 ρ σ H1 → Cfg g c F μ S ρ σ H → Ext F1 μ1 H1 F μ H → RelR g H1 F μ H x v → o x.t = some z →
  (∀ v' F' μ' H', Cfg g c F' μ' S ρ σ H' → Ext F μ H F' μ' H' → RelR g H F' μ' H' z v' → Q v' H') → r v H Q
def uopR (o : Uop) (x : R) (S : Store) : Res R := match o x.t with
  | some r => .ok r S
  | none => .stuck
def cUn (o : Uop) (fa : CE) : CE := fun S ρ => (fa S ρ).bind (uopR o)
theorem tUn_of {r} {o : Uop} (ho : UnS p.g r o) {σ H Q} (h : tOf p (cUn o fa) σ H Q) : tOf p fa σ H fun v H1 => r v H1 Q := by
  obtain ⟨c, F, μ, S, ρ, C, q⟩ := h
  refine tG.bind (rsR _) C q fun x S1 v F1 μ1 H1 C1 x1 r1 q1 _ => ?_
  unfold uopR at q1
  split at q1
  · rename_i z e
    exact ho c F μ S H F1 μ1 S1 ρ σ H1 x z v Q C C1 x1 r1 e q1
  · exact q1.elim
theorem e_un {op : UnaryOp} {r} {o : Uop} (hr : UnR X (unaryOp op) r) (ho : UnS p.g r o) (ha : EE X p a fa) : EE X p (.UnaryOp op a pos) (cUn o fa) :=
  PE.imp (pe_un hr ha) fun _ _ _ h => tUn_of ho h
def oNeg : Uop := fun
  | .int i => some ⟨.frz, .int (-i)⟩
  | _ => none
theorem uns_neg {g : Gx} : UnS g (rU fun i => .int (-i)) oNeg := by
  intro c F1 μ1 S1 H1 F μ S ρ σ H x z v Q C1 C xx r e k
  unfold oNeg at e
  split at e
  · rename_i i h; cases e; exact ⟨i, r.int h, k _ F μ H C (Ext.refl _ _ _) rfl⟩
  · cases e

/-! ### subscripts -/
def oIx : Bop := fun x y => match x, y with
  | .tup ts, .int i => (atI ts i).map fun t => ⟨.frz, t⟩
  | .lst ts, .int i => (atI ts i).map fun t => ⟨.frz, t⟩
  | .scr ns, .int i => (atI ns i).map fun n => ⟨.frz, .int n⟩
  | .str s, .int i => if s.length ≤ sizeLine then (atI s.cps.toList i).map fun c => ⟨.frz, .str ⟨#[c]⟩⟩ else none
  | _, _ => none
theorem atI_fz {g F μ} {ts : List T} {vs : List V} {i : Int} {t : T} (h : FzL g F μ ts vs) (e : atI ts i = some t) : ∃ v, atI vs i = some v ∧ Fz g F μ t v := by
  unfold atI at e ⊢
  rw [← h.length]
  cases q : ixN ts.length i with
  | none => rw [q] at e; cases e
  | some j => rw [q] at e; exact h.get e
theorem atI_map {α β : Type} {f : α → β} {ts : List α} {i : Int} {t : α} (e : atI ts i = some t) : atI (ts.map f) i = some (f t) := by
  unfold atI at e ⊢
  rw [List.length_map]
  cases q : ixN ts.length i with
  | none => rw [q] at e; cases e
  | some j =>
    rw [q] at e
    show (ts.map f)[j]? = _
    rw [List.getElem?_map]
    have e : ts[j]? = some t := e
    rw [e]; rfl
theorem ops_ix {g : Gx} : OpS g (rIx g.K) oIx := by
  intro c0 F1 μ1 S1 H1 F μ S ρ σ H x y z v w Q C1 C2 xx r1 r2 e k
  unfold oIx at e
  split at e
  · rename_i ts i e1 e2
    obtain ⟨t, e', rfl⟩ := Option.map_eq_some_iff.mp e
    obtain ⟨a, vs, rfl, h1, h2⟩ := r1.tup C2.sub e1
    obtain ⟨u, h3, h4⟩ := atI_fz h2 e'
    exact .inr (.inl ⟨a, vs, i, u, rfl, r2.int e2, h1, h3, k _ F μ H C2 (Ext.refl _ _ _) h4⟩)
  · rename_i ts i e1 e2
    obtain ⟨t, e', rfl⟩ := Option.map_eq_some_iff.mp e
    obtain ⟨a, vs, rfl, h1, h2⟩ := r1.lst C2.sub e1
    obtain ⟨u, h3, h4⟩ := atI_fz h2 e'
    exact .inl ⟨a, vs, i, u, rfl, r2.int e2, .inl (.inl h1), h3, k _ F μ H C2 (Ext.refl _ _ _) h4⟩
  · rename_i ts i e1 e2
    obtain ⟨t, e', rfl⟩ := Option.map_eq_some_iff.mp e
    obtain ⟨a, rfl, h1⟩ := r1.scr C2.sub e1
    exact .inl ⟨a, _, i, .int t, rfl, r2.int e2, h1, atI_map e', k _ F μ H C2 (Ext.refl _ _ _) rfl⟩
  · rename_i s i e1 e2
    split at e
    · rename_i hl
      obtain ⟨t, e', rfl⟩ := Option.map_eq_some_iff.mp e
      exact .inr (.inr ⟨s, i, t, r1.str e1, r2.int e2, hl, e', k _ F μ H C2 (Ext.refl _ _ _) rfl⟩)
    · cases e
  · cases e
theorem e_ix (hK : X.K = p.g.K) (ha : EE X p a fa) (hb : EE X p b fb) (hs : PlainIx b) : EE X p (.Subscript a b pos) (cOp oIx fa fb) :=
  PE.imp (pe_ix ix_seq ha hb hs) fun _ _ _ h => tOp_of (by rw [hK]; exact ops_ix) h

/-! ### defs -/
abbrev Mir := Store → List R → Res R
def spOf (g : Gx) (n : Nat) (m : Mir) : Sp := fun vs H Q E => vs.length = n ∧ ∃ F μ S rs, Sub F H ∧ RelS g F μ S H ∧ (∀ r ∈ rs, r.k ≠ Kd.fresh) ∧ RelRs g H F μ H rs vs ∧ (match m S rs with
  | .ok r S' => ∀ v F' μ' H', Sub F' H' → RelS g F' μ' S' H' → Ext F μ H F' μ' H' → RelR g H F' μ' H' r v → Q v H'
  | .err x S' => ∀ cls d F' μ' H', Sub F' H' → RelS g F' μ' S' H' → Ext F μ H F' μ' H' → ExR g F' μ' H' x cls d → E cls d H'
  | .stuck => False)
theorem Cfg.after {g c F1 μ1 S1 ρ σ H1 F' μ' S' H'} (C : Cfg g c F1 μ1 S1 ρ σ H1) (s : Sub F' H') (st : RelS g F' μ' S' H') (x : Ext F1 μ1 H1 F' μ' H') : Cfg g c F' μ' S' ρ σ H' := by
  refine ⟨s, st, C.ext.trans C.st x, C.sub0, C.st0, C.len, fun i sl o e1 e2 => ?_, C.ap⟩
  have q := C.sl i sl o e1 e2
  cases sl with
  | no => trivial
  | val t => obtain ⟨v, e, z⟩ := q; exact ⟨v, e, Fz.mono x.fr x.pre z⟩
  | own t =>
    obtain ⟨y, e, z, z2, z3⟩ := q
    refine ⟨y, e, z.mono C.st x, ?_, z3⟩
    obtain ⟨u, hu⟩ := z.has
    cases w : F' y with
    | none => rfl
    | some o =>
      rcases x.new y o w with h | h
      · rw [z2] at h; cases h
      · rw [hu] at h; cases h
  | bor t =>
    obtain ⟨y, e, z, z2⟩ := q
    obtain ⟨u, hu⟩ := z.has
    have e2 := (x.kp y u hu).resolve_left (z.ne_mem C.st)
    exact ⟨y, e, z.mono C.st x, z2.imp (fun z2 => by rw [z2, hu, e2]) fun z2 => by rw [hu] at z2; rw [e2]; exact x.fr _ _ z2⟩
  | exc y => obtain ⟨y, cls, d, e1, e2, e3, e4⟩ := q; exact ⟨y, cls, d, e1, e2, e3, e4.imp id fun ⟨z0, dd, vs, z1, z2, z3⟩ => ⟨z0, dd, vs, z1, x.fr _ _ z2, FzF.mono x.fr x.pre z3⟩⟩
def cCall (m : Mir) (dv : List T) (k : CA) : CE := fun S ρ => (k S ρ).bind fun rs S1 => m S1 (rs ++ dv.map fun t => ⟨.frz, t⟩)
/-- what stands for the defaults -/
def Dv (g : Gx) (dv : List T) (dvs : List V) : Prop := ∀ F μ, FzL g F μ dv dvs
/-- an argument list's length, and that nothing fresh is left in it -/
structure Ags (n : Nat) (k : CA) : Prop where
  nf : ∀ S ρ rs S', k S ρ = .ok rs S' → ∀ r ∈ rs, r.k ≠ Kd.fresh
  len : ∀ S ρ rs S', k S ρ = .ok rs S' → rs.length = n
theorem ags_nil : Ags 0 cNil := ⟨(fun S ρ rs S' h r hr => by cases h; cases hr), (fun S ρ rs S' h => by cases h; rfl)⟩
theorem ags_cons {n : Nat} {f : CE} {k : CA} (h : Ags n k) : Ags (n + 1) (cCons f k) := by
  have main : ∀ S ρ rs S', cCons f k S ρ = .ok rs S' → ∃ x xs S1 S2, k S1 ρ = .ok xs S2 ∧ rs = R.settle x :: xs := fun S ρ rs S' e => by
    unfold cCons at e
    cases e1 : f S ρ with
    | ok x S1 =>
      rw [e1] at e
      cases e2 : k S1 ρ with
      | ok xs S2 =>
        rw [bind_ok, e2] at e
        cases e
        exact ⟨x, xs, _, _, e2, rfl⟩
      | err x S2 => rw [bind_ok, e2] at e; cases e
      | stuck => rw [bind_ok, e2] at e; cases e
    | err x S1 => rw [e1] at e; cases e
    | stuck => rw [e1] at e; cases e
  refine ⟨fun S ρ rs S' e r hr => ?_, fun S ρ rs S' e => ?_⟩
  · obtain ⟨x, xs, S1, S2, e2, rfl⟩ := main _ _ _ _ e
    rcases List.mem_cons.mp hr with rfl | hr
    · exact settle_ne x
    · exact h.nf _ _ _ _ e2 r hr
  · obtain ⟨x, xs, S1, S2, e2, rfl⟩ := main _ _ _ _ e
    rw [List.length_cons, h.len _ _ _ _ e2]
theorem fzL_rel {g Hs F μ H} : ∀ {ts : List T} {vs : List V}, FzL g F μ ts vs → RelRs g Hs F μ H (ts.map fun t => ⟨.frz, t⟩) vs
  | [], vs, h => by have h : vs = [] := h; rw [h]; exact .nil
  | t :: ts, vs, h => by obtain ⟨v, r, rfl, a, b⟩ := h; exact .cons a (fzL_rel b)
theorem paired_app {α β : Type} {F : α → β → Prop} : ∀ {l : List α} {m : List β} {l' m'}, Paired F l m → Paired F l' m' → Paired F (l ++ l') (m ++ m')
  | _, _, _, _, .nil, h => h
  | _, _, _, _, .cons r t, h => .cons r (paired_app t h)
/-- a call, the arguments read, the def known -/
theorem call_of {p : Par} {n : Nat} {m : Mir} {c F μ S ρ σ H} {rs : List R} {vs : List V} {Q : VK} {Hs} (C : Cfg p.g c F μ S ρ σ H) (nf : ∀ r ∈ rs, r.k ≠ Kd.fresh) (r : RelRs p.g Hs F μ H rs vs) (hn : vs.length = n)
    (q : PostG p (RelR p.g) c σ ρ F μ H (m S rs) Q) : spOf p.g n m vs H Q (WE p.W σ) := by
  have r' : RelRs p.g H F μ H rs vs := by
    clear q hn
    induction r with
    | nil => exact .nil
    | cons a b ih => exact .cons (a.any (nf _ List.mem_cons_self)) (ih fun x hx => nf x (List.mem_cons_of_mem _ hx))
  refine ⟨hn, F, μ, S, rs, C.sub, C.st, nf, r', ?_⟩
  cases e : m S rs with
  | ok z S' => rw [e] at q; exact fun v F' μ' H' s st x rr => q v F' μ' H' (C.after s st x) x rr
  | err z S' => rw [e] at q; exact fun cls d F' μ' H' s st x ex => q cls d F' μ' H' (C.after s st x) ex
  | stuck => rw [e] at q; exact q
theorem e_call {n kk : Nat} {m : Mir} {f : Addr} {fd : FuncData} {ps : List Str} {x : Str} {p' : Pos} {dv : List T} {dvs : List V} {ds : List Value} (F : FnOk X.prog X.w X.K X.mg X.base (L2.CX X.prog X.w) kk f fd ps (spOf p.g n m)) (hr : Room kk X.A) (tk : Takes X p.W) (hg : Gl X x) (hm : X.mg x = some (.ref f)) (hk : PySem.W.keepIn X.K (.ref f) = true)
    (hb : Binds X.K fd ps ds) (hd : Vals dvs ds) (hv : Dv p.g dv dvs) {na : Nat} (ha : EA X p (e :: es) k) (ag : Ags na k) (hl : na + dvs.length = n) (hdb : (x == ("__debug__" : Str)) = false := by decide)
    (he : starEach (e :: es) X.env = (false, eval e X.env) :: starEach es X.env := by rfl) (hpl : (backTo pos (starEach es X.env)).any (·.1) = false := by rfl) :
    EE X p (.Call (.Name x p') (e :: es) [] pos) (cCall m dv k) := by
  refine PE.imp (pe_callSD (E := WE p.W) F hr hg hm hk hb hd (fun σ => passAt tk σ) ha hdb he hpl) fun σ H Q hh => ?_
  obtain ⟨c, F0, μ, S, ρ, C, q⟩ := hh
  refine ⟨c, F0, μ, S, ρ, C, ?_⟩
  unfold cCall at q
  cases ek : k S ρ with
  | err x S1 => rw [ek] at q; exact q
  | stuck => rw [ek] at q; exact q
  | ok rs S1 =>
    rw [ek] at q
    intro vs F1 μ1 H1 C1 x1 r1
    have q1 := PostG.step (rsR _) C1 x1 (show PostG p (RelR p.g) c σ ρ F0 μ H (m S1 (rs ++ dv.map fun t => ⟨.frz, t⟩)) Q from q)
    refine call_of C1 (fun r hr => ?_) (paired_app r1 (fzL_rel (hv _ _))) ?_ q1
    · rcases List.mem_append.mp hr with hr | hr
      · exact ag.nf _ _ _ _ ek r hr
      · obtain ⟨t, _, rfl⟩ := List.mem_map.mp hr
        exact fun z => nomatch z
    · rw [List.length_append, ← Paired.length r1, ag.len _ _ _ _ ek, hl]
end
end EV

namespace EV
open PySem PySem.Spec PyProof.Rows L2

/-! ### statements -/
inductive Fl where
  | nx (S : Store) (ρ : List Sl) | rt (r : R) (S : Store) | bk (S : Store) (ρ : List Sl) | ct (S : Store) (ρ : List Sl) | err (x : Exc) (S : Store) (ρ : List Sl) | stuck
abbrev CS := Store → List Sl → Fl
def PostS (p : Par) (c : C0) (fl : Fl) (D : Ends) : Prop := match fl with
  | .nx S ρ => ∀ F μ σ H, Cfg p.g c F μ S ρ σ H → D.nx σ H
  | .rt r S => ∀ v F μ H, Sub F H → RelS p.g F μ S H → Ext c.F c.μ c.H F μ H → RelR p.g c.H F μ H r v → D.rt v H
  | .bk S ρ => ∀ F μ σ H, Cfg p.g c F μ S ρ σ H → D.bk σ H
  | .ct S ρ => ∀ F μ σ H, Cfg p.g c F μ S ρ σ H → D.ct σ H
  | .err x S ρ => ∀ cls d F μ σ H, Cfg p.g c F μ S ρ σ H → ExR p.g F μ H x cls d → p.W cls d σ H
  | .stuck => False
def tOfS (p : Par) (f : CS) : TS := fun D σ H => ∃ c F μ S ρ, Cfg p.g c F μ S ρ σ H ∧ PostS p c (f S ρ) D
def SS (X : Cx) (p : Par) (st : Stmt) (f : CS) : Prop := PS X st (tOfS p f)
def SB (X : Cx) (p : Par) (st : List Stmt) (f : CS) : Prop := PSs X st (tOfS p f)
theorem PS.imp {X : Cx} {st : Stmt} {t u : TS} (h : PS X st t) (k : ∀ D σ H, u D σ H → t D σ H) : PS X st u := ⟨fun pins s σ H D I q => h.run pins s σ H D I (k _ _ _ q)⟩
theorem PSs.imp {X : Cx} {st : List Stmt} {t u : TS} (h : PSs X st t) (k : ∀ D σ H, u D σ H → t D σ H) : PSs X st u := ⟨fun pins s σ H D I q => h.run pins s σ H D I (k _ _ _ q)⟩
/-- an expression's outcome in a statement -/
def onR {α : Type} (m : Res α) (ρ : List Sl) (k : α → Store → Fl) : Fl := match m with
  | .ok a S => k a S
  | .err x S => .err x S ρ
  | .stuck => .stuck
@[simp] theorem onR_ok {α} (a : α) (S ρ) (k : α → Store → Fl) : onR (.ok a S) ρ k = k a S := rfl
@[simp] theorem onR_err {α} (a) (S ρ) (k : α → Store → Fl) : onR (.err a S) ρ k = .err a S ρ := rfl
@[simp] theorem onR_stuck {α} (ρ) (k : α → Store → Fl) : onR (.stuck) ρ k = .stuck := rfl
theorem tG.onR {p : Par} {β ω} {rel : Rel β ω} {f : CF β} {k : β → Store → Fl} {c σ ρ F μ S H} {Q : ω → Hp → Prop} {D : Ends}
    (C : Cfg p.g c F μ S ρ σ H) (h : PostS p c (onR (f S ρ) ρ k) D)
    (next : ∀ r S1 v F1 μ1 H1, Cfg p.g c F1 μ1 S1 ρ σ H1 → Ext F μ H F1 μ1 H1 → rel H F1 μ1 H1 r v → PostS p c (k r S1) D → Q v H1) : tG p rel f σ H Q := by
  refine ⟨c, F, μ, S, ρ, C, ?_⟩
  cases e : f S ρ with
  | ok r S1 =>
    rw [e] at h
    exact fun v F1 μ1 H1 C1 x1 q => next r S1 v F1 μ1 H1 C1 x1 q h
  | err y S1 => rw [e] at h; exact fun cls d F' μ' H' C' q => h cls d F' μ' σ H' C' q
  | stuck => rw [e] at h; exact h
def sNext : CS := fun S ρ => .nx S ρ
def seqK (g : CS) (fl : Fl) : Fl := match fl with
  | .nx S ρ => g S ρ
  | o => o
def sSeq (f g : CS) : CS := fun S ρ => seqK g (f S ρ)
def sIf (c : CB) (f g : CS) : CS := fun S ρ => onR (c S ρ) ρ fun b S1 => if b = true then f S1 ρ else g S1 ρ
def sRet (f : CE) : CS := fun S ρ => onR (f S ρ) ρ fun r S1 => match r.k with
  | .place => .stuck
  | _ => .rt r S1
def sRetN : CS := fun S _ => .rt ⟨.frz, .non⟩ S
def sExpr (f : CE) : CS := fun S ρ => onR (f S ρ) ρ fun _ S1 => .nx S1 ρ
/-- what a name holds behind a store -/
def slOf (r : R) : Option Sl := match r.k with
  | .frz => some (.val r.t)
  | .fresh => some (.own r.t)
  | .place => none
def setK (i : Nat) (ρ : List Sl) (r : R) (S : Store) : Fl := match slOf r with
  | some s => .nx S (ρ.set i s)
  | none => .stuck
def sSet (i : Nat) (f : CE) : CS := fun S ρ => onR (f S ρ) ρ (setK i ρ)
section
variable {X : Cx} {p : Par} {e : Expr} {st : Stmt} {rest : List Stmt} {fe : CE} {f h : CS} {gc : CB} {pos : Pos}
theorem ss_nil : SB X p [] sNext := by
  refine PSs.imp pss_nil fun D σ H hh => ?_
  obtain ⟨c, F, μ, S, ρ, C, q⟩ := hh
  exact q F μ σ H C
theorem ss_cons (h1 : SS X p st f) (h2 : SB X p rest h) : SB X p (st :: rest) (sSeq f h) := by
  refine PSs.imp (pss_cons h1 h2) fun D σ H hh => ?_
  obtain ⟨c, F, μ, S, ρ, C, q⟩ := hh
  refine ⟨c, F, μ, S, ρ, C, ?_⟩
  unfold sSeq at q
  cases e : f S ρ with
  | nx S1 ρ1 => rw [e] at q; exact fun F1 μ1 σ1 H1 C1 => ⟨c, F1, μ1, S1, ρ1, C1, q⟩
  | rt r S1 => rw [e] at q; exact q
  | bk S1 ρ1 => rw [e] at q; exact q
  | ct S1 ρ1 => rw [e] at q; exact q
  | err x S1 ρ1 => rw [e] at q; exact q
  | stuck => rw [e] at q; exact q
theorem ss_one (h1 : SS X p st f) : SB X p [st] f := pss_one h1
theorem s_pass : SS X p (.Pass pos) sNext := by
  refine PS.imp ps_pass fun D σ H hh => ?_
  obtain ⟨c, F, μ, S, ρ, C, q⟩ := hh
  exact q F μ σ H C
theorem s_break : SS X p (.Break pos) (fun S ρ => .bk S ρ) := by
  refine PS.imp ps_break fun D σ H hh => ?_
  obtain ⟨c, F, μ, S, ρ, C, q⟩ := hh
  exact q F μ σ H C
theorem s_cont : SS X p (.Continue pos) (fun S ρ => .ct S ρ) := by
  refine PS.imp ps_continue fun D σ H hh => ?_
  obtain ⟨c, F, μ, S, ρ, C, q⟩ := hh
  exact q F μ σ H C
theorem s_if {c : Expr} {a b : List Stmt} (hc : EB' X p c gc) (ha : SB X p a f) (hb : SB X p b h) : SS X p (.If c a b pos) (sIf gc f h) := by
  refine PS.imp (ps_if hc ha hb) fun D σ H hh => ?_
  obtain ⟨c, F, μ, S, ρ, C, q⟩ := hh
  refine tG.onR C q fun b S1 v F1 μ1 H1 C1 x1 r1 q1 => ?_
  cases r1
  cases b with
  | true => exact ⟨c, F1, μ1, S1, ρ, C1, q1⟩
  | false => exact ⟨c, F1, μ1, S1, ρ, C1, q1⟩
theorem s_ret (he : EE X p e fe) : SS X p (.Return (some e) pos) (sRet fe) := by
  refine PS.imp (ps_ret he) fun D σ H hh => ?_
  obtain ⟨c, F, μ, S, ρ, C, q⟩ := hh
  refine tG.onR C q fun r S1 v F1 μ1 H1 C1 x1 r1 q1 => ?_
  have key : ∀ (k : Kd), r.k = k → k ≠ .place → PostS p c (.rt r S1) D → D.rt v H1 := fun k _ _ q => q v F1 μ1 H1 C1.sub C1.st C1.ext (r1.start fun a h => C.ext.nil0 C.st h)
  split at q1
  · exact q1.elim
  · exact key _ rfl (by assumption) q1
theorem s_retN : SS X p (.Return none pos) sRetN := by
  refine PS.imp ps_retN fun D σ H hh => ?_
  obtain ⟨c, F, μ, S, ρ, C, q⟩ := hh
  exact q .non F μ H C.sub C.st C.ext rfl
theorem s_expr (he : EE X p e fe) (hs : swapsWith e none pos.line X.env = pure false := by rfl) : SS X p (.Expr e pos) (sExpr fe) := by
  refine PS.imp (ps_expr he hs) fun D σ H hh => ?_
  obtain ⟨c, F, μ, S, ρ, C, q⟩ := hh
  exact tG.onR C q fun r S1 v F1 μ1 H1 C1 x1 r1 q1 => q1 F1 μ1 σ H1 C1
/-- a name gets a value -/
theorem Cfg.set {g c F1 μ1 S1 H1 F μ S ρ σ H r v i s} (C1 : Cfg g c F1 μ1 S1 ρ σ H1) (C : Cfg g c F μ S ρ σ H) (h : RelR g H1 F μ H r v) (e : slOf r = some s) : Cfg g c F μ S (ρ.set i s) (σ.set i (some v)) H := by
  refine ⟨C.sub, C.st, C.ext, C.sub0, C.st0, by rw [List.length_set, List.length_set, C.len], fun j sl o e1 e2 => ?_, fun j k t u a e1 e2 e3 e4 => ?_⟩
  · by_cases hj : i = j
    · subst hj
      have hi : i < ρ.length := by
        have := (List.getElem?_eq_some_iff.mp e1).1
        rwa [List.length_set] at this
      rw [List.getElem?_set_self hi] at e1
      rw [List.getElem?_set_self (by rw [← C.len]; exact hi)] at e2
      cases e1; cases e2
      obtain ⟨k, t⟩ := r
      cases k with
      | frz => cases e; exact ⟨v, rfl, h⟩
      | fresh => cases e; obtain ⟨a, rfl, b, f, hs⟩ := h; exact ⟨a, rfl, b, f, C1.ext.nil0 C1.st hs⟩
      | place => cases e
    · rw [List.getElem?_set_ne hj] at e1 e2
      exact C.sl j sl o e1 e2
  · have fresh : ∀ (j k : Nat) (t u : T), i = j → i ≠ k → (ρ.set i s)[j]? = some (.own t) → (ρ.set i s)[k]? = some (.own u) → (σ.set i (some v))[j]? = some (some (.ref a)) → (σ.set i (some v))[k]? = some (some (.ref a)) → False := by
      clear e1 e2 e3 e4
      intro j k t u hj hk e1 e2 e3 e4
      subst hj
      have hi : i < ρ.length := by
        have := (List.getElem?_eq_some_iff.mp e1).1
        rwa [List.length_set] at this
      rw [List.getElem?_set_self hi] at e1
      rw [List.getElem?_set_self (by rw [← C.len]; exact hi)] at e3
      rw [List.getElem?_set_ne hk] at e2 e4
      cases e1; cases e3
      obtain ⟨a', e5, b, _⟩ := C1.sl k (.own u) _ e2 e4
      cases e5
      obtain ⟨w, hw⟩ := b.has
      obtain ⟨kd, t'⟩ := r
      cases kd with
      | frz => cases e
      | fresh => obtain ⟨a', e6, _, _, hs⟩ := h; cases e6; rw [hs] at hw; cases hw
      | place => cases e
    by_cases hj : i = j
    · by_cases hk : i = k
      · rw [← hj, hk]
      · exact (fresh j k t u hj hk e1 e2 e3 e4).elim
    · by_cases hk : i = k
      · exact (fresh k j u t hk hj e2 e1 e4 e3).elim
      · rw [List.getElem?_set_ne hj] at e1 e3
        rw [List.getElem?_set_ne hk] at e2 e4
        exact C.ap j k t u a e1 e2 e3 e4
theorem s_set {i : Nat} {x : Str} {pos' : Pos} (hN : X.N.Nodup) (hi : X.N[i]? = some x) (hx : Loc X.env.scope x) (he : EE X p e fe) (hs : swapsWith e (some (.Name x pos')) pos.line X.env = pure false := by rfl) (hf : X.fn x = true ∨ X.env.scope.names.lookup x = some .local := by first | exact .inl rfl | exact .inr rfl | assumption) :
    SS X p (.Assign [.Name x pos'] e pos) (sSet i fe) := by
  refine PS.imp (ps_set hN hi hx he hs hf) fun D σ H hh => ?_
  obtain ⟨c, F, μ, S, ρ, C, q⟩ := hh
  refine tG.onR C q fun r S1 v F1 μ1 H1 C1 x1 r1 q1 => ?_
  unfold setK at q1
  split at q1
  · rename_i s e
    exact q1 F1 μ1 _ H1 (Cfg.set C C1 r1 e)
  · exact q1.elim
end

/-! ### a def by its body -/
def slIn (r : R) : Sl := match r.k with
  | .frz => .val r.t
  | _ => .bor r.t
def inρ (n : Nat) (rs : List R) : List Sl := rs.map slIn ++ List.replicate (n - rs.length) .no
def endM (fl : Fl) : Res R := match fl with
  | .rt r S => .ok r S
  | .nx S _ => .ok ⟨.frz, .non⟩ S
  | .err x S _ => .err x S
  | _ => .stuck
def bodyM (n : Nat) (f : CS) : Mir := fun S rs => endM (f S (inρ n rs))
theorem cfg_in {g : Gx} {F μ S H} {rs : List R} {vs : List V} {N : List Str} (s : Sub F H) (st : RelS g F μ S H) (nf : ∀ r ∈ rs, r.k ≠ Kd.fresh) (r : RelRs g H F μ H rs vs) (hN : vs.length ≤ N.length) :
    Cfg g ⟨F, μ, H⟩ F μ S (inρ N.length rs) (L2.start N vs) H := by
  have hl : rs.length = vs.length := Paired.length r
  refine ⟨s, st, Ext.refl _ _ _, s, fun a m => ?_, ?_, fun i sl o e1 e2 => ?_, fun i j t u a e1 e2 => ?_⟩
  · obtain ⟨C, dx, vs, e, _⟩ := st.ins m; exact ⟨C, dx, vs, e⟩
  · unfold inρ L2.start; simp only [List.length_append, List.length_map, List.length_replicate]; omega
  · by_cases hi : i < rs.length
    · unfold inρ at e1
      unfold L2.start at e2
      rw [List.getElem?_append_left (by simpa using hi), List.getElem?_map] at e1
      rw [List.getElem?_append_left (by simpa [hl] using hi), List.getElem?_map] at e2
      have key : ∀ {rs : List R} {vs : List V} (i : Nat) (x : R) (v : V), RelRs g H F μ H rs vs → rs[i]? = some x → vs[i]? = some v → RelR g H F μ H x v := by
        intro rs vs i x v r
        induction r generalizing i with
        | nil => intro h; simp at h
        | cons a b ih =>
          cases i with
          | zero => intro h1 h2; simp at h1 h2; subst h1; subst h2; exact a
          | succ i => intro h1 h2; exact ih i (by simpa using h1) (by simpa using h2)
      cases a1 : rs[i]? with
      | none => rw [a1] at e1; cases e1
      | some x =>
        cases a2 : vs[i]? with
        | none => rw [a2] at e2; cases e2
        | some v =>
          rw [a1] at e1; rw [a2] at e2
          cases e1; cases e2
          have q := key i x v r a1 a2
          have nfx := nf x (List.mem_of_getElem? a1)
          obtain ⟨k, t⟩ := x
          cases k with
          | frz => exact ⟨v, rfl, q⟩
          | fresh => exact absurd rfl nfx
          | place => obtain ⟨a, rfl, b⟩ := q; exact ⟨a, rfl, b, .inl rfl⟩
    · unfold inρ at e1
      rw [List.getElem?_append_right (by simpa using hi), List.getElem?_replicate] at e1
      split at e1
      · cases e1; trivial
      · cases e1
  · exfalso
    unfold inρ at e1
    by_cases hi : i < rs.length
    · rw [List.getElem?_append_left (by simpa using hi), List.getElem?_map] at e1
      cases a1 : rs[i]? with
      | none => rw [a1] at e1; cases e1
      | some x =>
        rw [a1] at e1
        obtain ⟨k, t⟩ := x
        cases k <;> cases e1
    · rw [List.getElem?_append_right (by simpa using hi), List.getElem?_replicate] at e1
      split at e1 <;> cases e1
/-- a body's reading from its promise -/
theorem body_of {p : Par} {N : List Str} {n : Nat} {f : CS} {H : Hp} {vs : List V} {Q : VK} {E : XK} (hn : n ≤ N.length) (hW : p.W = fun cls d _ H => E cls d H) (h : spOf p.g n (bodyM N.length f) vs H Q E) :
    tOfS p f { nx := fun _ H' => Q .non H', rt := Q } (L2.start N vs) H := by
  obtain ⟨hl, F, μ, S, rs, s, st, nf, r, q⟩ := h
  refine ⟨⟨F, μ, H⟩, F, μ, S, inρ N.length rs, cfg_in s st nf r (by omega), ?_⟩
  unfold bodyM at q
  cases e : f S (inρ N.length rs) with
  | nx S1 ρ1 => rw [e] at q; exact fun F1 μ1 σ1 H1 C1 => q .non F1 μ1 H1 C1.sub C1.st C1.ext rfl
  | rt r S1 => rw [e] at q; exact fun v F1 μ1 H1 s1 st1 x1 r1 => q v F1 μ1 H1 s1 st1 x1 r1
  | bk S1 ρ1 => rw [e] at q; exact q.elim
  | ct S1 ρ1 => rw [e] at q; exact q.elim
  | err x S1 ρ1 => rw [e] at q; exact fun cls d F1 μ1 σ1 H1 C1 ex => by rw [hW]; exact q cls d F1 μ1 H1 C1.sub C1.st C1.ext ex
  | stuck => rw [e] at q; exact q.elim
/-- a def keeps its mirror's promise -/
theorem fn_ok {P : Program} {w : World} {g : Gx} {mg : Str → Option Value} {base : Heap} {x qual : Str} {st : Stmt} {f : Addr} {fd : FuncData} {N ps : List Str} {k n : Nat} {b : CS} (F : Fun g.K x qual st f fd) (Sc : FnScope N ps (defScope st)) (hn : ps.length = n)
    (hbody : ∀ (cdv : Value) (A : Around) (outer : List Env) (s : Shared) (H : Hp) (E : XK), Room k (A.deeper (envOfC qual (defScope st) s.heap.objs.size f cdv)) →
      SB (cxOf (L2.CX P w) P w g.K mg base N qual (defScope st) f cdv A outer s H E) ⟨g, fun cls d _ H => E cls d H⟩ (defBody st) b) :
    FnOk P w g.K mg base (L2.CX P w) (k + 1) f fd ps (spOf g n (bodyM N.length b)) := by
  refine F.okX Sc (fun vs H Q E h => by rw [hn]; exact h.1) (fun cdv A outer s H vs Q E hr h => ?_)
  have hp : n ≤ N.length := by rw [← hn]; have := congrArg List.length Sc.pre; rw [List.length_take] at this; omega
  exact ⟨_, hbody cdv A outer s H E hr, body_of hp rfl h⟩
end EV

namespace EV
open PySem PySem.Spec PyProof.Rows L2 SlX

theorem RelR.inst {g : Gx} {Hs F : Hp} {μ : List Addr} {H : Hp} {r : R} {v : V} {c ts} (h : RelR g Hs F μ H r v) (s : Sub F H) (e : r.t = .inst c ts) : ∃ a dx vs, v = .ref a ∧ Slt H a (g.cs c) dx (vs.map some) ∧ FzL g F μ ts vs := by
  have q := h.flat (by rw [e]; intro _ z; cases z) (by rw [e]; intro _ z; cases z) (by rw [e]; intro _ z; cases z)
  rw [e] at q
  obtain ⟨a, dx, vs, e1, e2, e3, e4⟩ := q
  exact ⟨a, dx, vs, e1, .inr ⟨s _ _ e2, s _ _ e3⟩, e4⟩

/-- a method that is known -/
structure HasM (P : Program) (w : World) (g : Gx) (mg : Str → Option Value) (base : Heap) (c : Nat) (m : Str) (k n : Nat) (mi : Mir) : Prop where
  ex : ∃ f, PySem.W.findIn g.K (.ref (g.cs c)) m = some (some (.ref f)) ∧ PySem.W.isFn g.K (.ref f) = true ∧ PySem.W.keepIn g.K (.ref f) = true ∧ FnR P w g.K mg base (L2.CX P w) k f (spOf g n mi)

section
variable {X : Cx} {p : Par} {a b e : Expr} {es : List Expr} {fa fb : CE} {ta tb : TE} {k : CA} {pos : Pos}
def OpA (X : Cx) (f : Value → Value → Sem Value) (r : L2.St → R2) : Prop :=
  ∀ (pins : List (Addr × Obj)) (s : Shared) (σ : L2.St) (H : Hp) (x y : V) (v u : Value) (Q : VK), Inv X pins σ H s → RelV x v → RelV y u → r σ x y H Q → wpAny (model X.prog X.w) X.A (f v u) (EP X pins σ Q) X.xe s
theorem OpA.or {f : Value → Value → Sem Value} {r1 r2 : L2.St → R2} (h1 : OpA X f r1) (h2 : OpA X f r2) : OpA X f (fun σ x y H Q => r1 σ x y H Q ∨ r2 σ x y H Q) := fun pins s σ H x y v u Q I rx ry h => h.elim (h1 pins s σ H x y v u Q I rx ry) (h2 pins s σ H x y v u Q I rx ry)
theorem OpR.toA {f : Value → Value → Sem Value} {r : R2} (h : OpR X f r) : OpA X f (fun _ => r) := h
def tOpA (r : L2.St → R2) (ta tb : TE) : TE := fun σ H Q => ta σ H fun x H1 => tb σ H1 fun y H2 => r σ x y H2 Q
theorem pe_opA {op : Operator} {r : L2.St → R2} (ho : OpA X (binaryOp op) r) (ha : PE X a ta) (hb : PE X b tb) : PE X (.BinOp a op b pos) (tOpA r ta tb) := by
  refine ⟨fun pins s σ H Q I h => ?_⟩
  exact wpAny_BinOp (binT ha hb I (R := fun x y H2 => r σ x y H2 Q) h fun v u s2 x y H2 I2 rx ry q => ho pins s2 σ H2 x y v u Q I2 rx ry q)
theorem pe_cmpA {op : CmpOp} {r : L2.St → R2} (ho : OpA X (compareOp op) r) (ha : PE X a ta) (hb : PE X b tb) (hm : behindInMarks op b = false) : PE X (.Compare a [op] [b] pos) (tOpA r ta tb) := by
  refine ⟨fun pins s σ H Q I h => ?_⟩
  exact wpAny_Compare1 (binT ha hb I (R := fun x y H2 => r σ x y H2 Q) h fun v u s2 x y H2 I2 rx ry q => ho pins s2 σ H2 x y v u Q I2 rx ry q) hm
theorem pt_cmpA {op : CmpOp} {r : L2.St → R2} (ho : OpA X (compareOp op) r) (ha : PE X a ta) (hb : PE X b tb) (hm : behindInMarks op b = false) : PT X (.Compare a [op] [b] pos) (tTest (tOpA r ta tb)) := by
  refine ⟨fun pins s σ H Q I h => ?_⟩
  refine wpAny_isTrue_Compare1 (thn (ha.run pins s σ H _ I h) fun v s1 ⟨x, H1, I1, r1, q1⟩ => thn (hb.run pins s1 σ H1 _ I1 q1) fun u s2 ⟨y, H2, I2, r2, q2⟩ =>
    thn (ho pins s2 σ H2 x y v u _ I2 r1 r2 q2) fun c s3 ⟨z, H3, I3, r3, k, e, q3⟩ => ?_) hm
  subst e
  cases r3
  exact wpAny_truthy_bool ⟨H3, I3, q3⟩
/-- an operation's outcome, by the abstract values -/
abbrev Aop := Store → R → R → Res R
def OpAS (p : Par) (r : L2.St → R2) (o : Aop) : Prop := ∀ c F1 μ1 S1 H1 F μ S ρ σ H (x y : R) (v w : V) (Q : VK), Cfg p.g c F1 μ1 S1 ρ σ H1 → Cfg p.g c F μ S ρ σ H → Ext F1 μ1 H1 F μ H → RelR p.g H1 F μ H x v → RelR p.g H1 F μ H y w →
  PostG p (RelR p.g) c σ ρ F μ H (o S x y) Q → r σ v w H Q
def cOpA (o : Aop) (fa fb : CE) : CE := fun S ρ => (fa S ρ).bind fun x S1 => (fb S1 ρ).bind fun y S2 => o S2 x y
theorem tOpA_of {r : L2.St → R2} {o : Aop} (ho : OpAS p r o) {σ H Q} (h : tOf p (cOpA o fa fb) σ H Q) : tOpA r (tOf p fa) (tOf p fb) σ H Q := by
  obtain ⟨c, F, μ, S, ρ, C, q⟩ := h
  refine tG.bind (rsR _) C q fun x S1 v F1 μ1 H1 C1 x1 r1 q1 q0 => ?_
  refine tG.bind (rsR _) C1 q1 fun y S2 w F2 μ2 H2 C2 x2 r2 q2 _ => ?_
  exact ho c F μ S H F2 μ2 S2 ρ σ H2 x y v w Q C C2 (x1.trans C1.st x2) (r1.mono C1.st x2) (r2.start fun a h => x1.nil0 C1.st h) q2
theorem e_opA {op : Operator} {r : L2.St → R2} {o : Aop} (hr : OpA X (binaryOp op) r) (ho : OpAS p r o) (ha : EE X p a fa) (hb : EE X p b fb) : EE X p (.BinOp a op b pos) (cOpA o fa fb) :=
  PE.imp (pe_opA hr ha hb) fun _ _ _ h => tOpA_of ho h
theorem e_cmpA {op : CmpOp} {r : L2.St → R2} {o : Aop} (hr : OpA X (compareOp op) r) (ho : OpAS p r o) (ha : EE X p a fa) (hb : EE X p b fb) (hm : behindInMarks op b = false) : EE X p (.Compare a [op] [b] pos) (cOpA o fa fb) :=
  PE.imp (pe_cmpA hr ha hb hm) fun _ _ _ h => tOpA_of ho h
theorem b_cmpA {op : CmpOp} {r : L2.St → R2} {o : Aop} (hr : OpA X (compareOp op) r) (ho : OpAS p r o) (ha : EE X p a fa) (hb : EE X p b fb) (hm : behindInMarks op b = false) : EB' X p (.Compare a [op] [b] pos) (cAsB (cOpA o fa fb)) :=
  PT.imp (pt_cmpA hr ha hb hm) fun _ _ _ h => tTest_of (fun _ _ _ z => tOpA_of ho z) h
def bopA (o : Bop) : Aop := fun S x y => bopR o x y S
theorem OpS.toA {r : R2} {o : Bop} (h : OpS p.g r o) : OpAS p (fun _ => r) (bopA o) := by
  intro c F1 μ1 S1 H1 F μ S ρ σ H x y v w Q C1 C xx r1 r2 q
  unfold bopA bopR at q
  split at q
  · rename_i z e
    exact h c F1 μ1 S1 H1 F μ S ρ σ H x y z v w Q C1 C xx r1 r2 e q
  · exact q.elim
/-- the callee runs; what it lets out is taken where one stands -/
theorem run_fnA {CX : CXT} {kk : Nat} {f : Addr} {sp : Sp} {E : XK} {pins : List (Addr × Obj)} {σ : L2.St} {H : Hp} {s : Shared} {Q : VK} {us : List Value} {vs : List V} (F : FnR X.prog X.w X.K X.mg X.base CX kk f sp) (hr : Room kk X.A) (hx : PassesAt CX X σ E) (I : Inv X pins σ H s) (r : Vals vs us) (h : sp vs H Q E) :
    codeAny (model X.prog X.w) X.A (.call (.ref f) ⟨us, []⟩) (fun r s' => match r with | .ok (.ret v) => EP X pins σ Q v s' | .ok _ => False | .error e => X.xe e s') s := by
  refine codeAny_mono (F X.A X.stack s H us vs Q E hr I.env0 r h) fun r s' hq => ?_
  cases r with
  | error e => exact hx pins H s e s' I hq
  | ok fl =>
    cases fl with
    | ret u => exact I.after hq
    | next => exact False.elim hq
    | brk => exact False.elim hq
    | cont => exact False.elim hq
theorem wp_fnA {CX : CXT} {kk : Nat} {f : Addr} {sp : Sp} {E : XK} {pins : List (Addr × Obj)} {σ : L2.St} {H : Hp} {s : Shared} {Q : VK} {us : List Value} {vs : List V} (F : FnR X.prog X.w X.K X.mg X.base CX kk f sp) (hr : Room kk X.A) (hx : PassesAt CX X σ E) (I : Inv X pins σ H s) (r : Vals vs us) (h : sp vs H Q E) :
    wpAny (model X.prog X.w) X.A (call (.ref f) us) (EP X pins σ Q) X.xe s := by
  refine wpAny_call (codeAny_mono (run_fnA F hr hx I r h) fun r s' hq => ?_)
  cases r with
  | error e => exact hq
  | ok fl => cases fl <;> exact hq
/-! ### operators of an own class (with slots): the left one's method is asked -/
def isI (c : Nat) (r : R) : Bool := match r.t with
  | .inst d _ => decide (d = c)
  | _ => false
def frzd (r : R) : Bool := decide (r.k = Kd.frz)
/-- x op y, by the method of x's class; y of the same class -/
def oOwn (c : Nat) (m : Mir) : Aop := fun S x y => if isI c x && isI c y && frzd x && frzd y then m S [x, y] else .stuck
def rOwn2 (g : Gx) (W : WX) (c : Nat) (m : Mir) : L2.St → R2 := fun σ x y H Q => ∃ a dx vs b dy ws, x = .ref a ∧ y = .ref b ∧ Slt H a (g.cs c) dx vs ∧ Slt H b (g.cs c) dy ws ∧ spOf g 2 m [x, y] H Q (WE W σ)
theorem isI_ok {c : Nat} {r : R} (h : isI c r = true) : ∃ ts, r.t = .inst c ts := by
  unfold isI at h
  split at h
  · rename_i d ts e; exact ⟨ts, by rw [e, of_decide_eq_true h]⟩
  · cases h
theorem rel2 {g Hs F μ H x y v w} (r1 : RelR g Hs F μ H x v) (r2 : RelR g Hs F μ H y w) : RelRs g Hs F μ H [x, y] [v, w] := .cons r1 (.cons r2 .nil)
theorem opas_own {c : Nat} {m : Mir} : OpAS p (rOwn2 p.g p.W c m) (oOwn c m) := by
  intro cc F1 μ1 S1 H1 F μ S ρ σ H x y v w Q C1 C xx r1 r2 q
  unfold oOwn at q
  split at q
  · rename_i h
    simp only [Bool.and_eq_true] at h
    obtain ⟨⟨⟨h1, h2⟩, h3⟩, h4⟩ := h
    obtain ⟨ts, e1⟩ := isI_ok h1
    obtain ⟨us, e2⟩ := isI_ok h2
    obtain ⟨a, dx, vs, rfl, s1, _⟩ := r1.inst C.sub e1
    obtain ⟨b, dy, ws, rfl, s2, _⟩ := r2.inst C.sub e2
    refine ⟨a, dx, _, b, dy, _, rfl, rfl, s1, s2, call_of C (fun r hr => ?_) (rel2 r1 r2) rfl q⟩
    have k1 : x.k = .frz := of_decide_eq_true h3
    have k2 : y.k = .frz := of_decide_eq_true h4
    rcases List.mem_cons.mp hr with rfl | hr
    · rw [k1]; exact fun z => nomatch z
    · rcases List.mem_cons.mp hr with rfl | hr
      · rw [k2]; exact fun z => nomatch z
      · cases hr
  · exact q.elim
/-- a class whose operators are asked -/
structure OwnC (g : Gx) (c : Nat) : Prop where
  cl : SCls g.K (g.cs c)
  sf : PySem.W.selfFirst g.K (g.cs c) = true
  nf : PySem.W.notFirst g.K (g.cs c) (.ref (g.cs c)) = true
theorem opA_bin {c : Nat} {kk : Nat} {mi : Mir} {op : Operator} (hK : X.K = p.g.K) (oc : OwnC p.g c) (h : HasM X.prog X.w p.g X.mg X.base c (PySem.dunder op.info.2) kk 2 mi) (hr : Room kk X.A) (tk : Takes X p.W) : OpA X (binaryOp op) (rOwn2 p.g p.W c mi) := by
  intro pins s σ H x y v u Q I rx ry q
  obtain ⟨a, dx, vs, b, dy, ws, rfl, rfl, ha, hb, q⟩ := q
  cases (show v = Value.ref a from rx)
  cases (show u = Value.ref b from ry)
  obtain ⟨sl, od, _, J, _⟩ := slt_inst I ha
  obtain ⟨sl', od', _, J', _⟩ := slt_inst I hb
  obtain ⟨m, hF⟩ := I.fr
  obtain ⟨f, hs, hf, _, F⟩ := h.ex
  rw [← hK] at hs hf F
  refine PySem.W.binop_K hF I.ok.mod.kin J J'.type (by rw [hK]; exact oc.sf) hs hf ?_
  refine wpAny_mono (wp_fnA (us := [.ref a, .ref b]) (vs := [.ref a, .ref b]) F hr (passAt tk σ) I (.cons rfl (.cons rfl .nil)) q) (fun w s' z => ?_) fun _ _ x => x
  obtain ⟨z', H', I', rz, qz⟩ := z
  exact cmpback rz ⟨z', H', I', rz, qz⟩
theorem opA_cmp {c : Nat} {kk : Nat} {mi : Mir} {op : CmpOp} (hK : X.K = p.g.K) (oc : OwnC p.g c) (hop : ∀ a b, compareOp op a b = richCompare op a b) (h : HasM X.prog X.w p.g X.mg X.base c (cmpInfo op).2.1 kk 2 mi) (hr : Room kk X.A) (tk : Takes X p.W) : OpA X (compareOp op) (rOwn2 p.g p.W c mi) := by
  intro pins s σ H x y v u Q I rx ry q
  obtain ⟨a, dx, vs, b, dy, ws, rfl, rfl, ha, hb, q⟩ := q
  cases (show v = Value.ref a from rx)
  cases (show u = Value.ref b from ry)
  obtain ⟨sl, od, _, J, _⟩ := slt_inst I ha
  obtain ⟨sl', od', _, J', _⟩ := slt_inst I hb
  obtain ⟨m, hF⟩ := I.fr
  obtain ⟨f, hs, hf, _, F⟩ := h.ex
  rw [← hK] at hs hf F
  rw [hop]
  refine PySem.W.cmp_K (op := op) hr.units0 hF I.ok.mod.kin J J'.type (by rw [hK]; exact oc.nf) hs hf ?_
  refine wpAny_mono (wp_fnA (us := [.ref a, .ref b]) (vs := [.ref a, .ref b]) F hr (passAt tk σ) I (.cons rfl (.cons rfl .nil)) q) (fun w s' z => ?_) fun _ _ x => x
  obtain ⟨z', H', I', rz, qz⟩ := z
  exact cmpback rz ⟨z', H', I', rz, qz⟩
/-- x in y, y an instance -/
def oInOwn (c : Nat) (m : Mir) : Aop := fun S x y => if isI c y && frzd x && frzd y then (m S [y, x]).bind fun r S1 => (asB r S1).bind fun b S2 => .ok ⟨.frz, .bl b⟩ S2 else .stuck
def rIn2 (g : Gx) (W : WX) (c : Nat) (m : Mir) : L2.St → R2 := fun σ x y H Q => ∃ b dy ws, y = .ref b ∧ Slt H b (g.cs c) dy ws ∧ spOf g 2 m [y, x] H (fun v H' => ∃ k, v = .bl k ∧ Q (.bl k) H') (WE W σ)
theorem opas_in {c : Nat} {m : Mir} : OpAS p (rIn2 p.g p.W c m) (oInOwn c m) := by
  intro cc F1 μ1 S1 H1 F μ S ρ σ H x y v w Q C1 C xx r1 r2 q
  unfold oInOwn at q
  split at q
  · rename_i h
    simp only [Bool.and_eq_true] at h
    obtain ⟨⟨h2, h3⟩, h4⟩ := h
    obtain ⟨us, e2⟩ := isI_ok h2
    obtain ⟨b, dy, ws, rfl, s2, _⟩ := r2.inst C.sub e2
    refine ⟨b, dy, _, rfl, s2, call_of (ρ := ρ) C (fun r hr => ?_) (rel2 r2 r1) rfl ?_⟩
    · have k1 : x.k = .frz := of_decide_eq_true h3
      have k2 : y.k = .frz := of_decide_eq_true h4
      rcases List.mem_cons.mp hr with rfl | hr
      · rw [k2]; exact fun z => nomatch z
      · rcases List.mem_cons.mp hr with rfl | hr
        · rw [k1]; exact fun z => nomatch z
        · cases hr
    · cases e : m S [y, x] with
      | ok r S' =>
        rw [e] at q
        intro v' F' μ' H' C' x' rr
        have q' := PostG.step (rsR _) C' x' (show PostG p (RelR p.g) cc σ ρ F μ H ((asB r S').bind fun b S2 => .ok ⟨.frz, .bl b⟩ S2) Q from q)
        obtain ⟨b, rfl, q2⟩ := asB_ok rr q'
        exact ⟨b, rfl, q2 _ F' μ' H' C' (Ext.refl _ _ _) rfl⟩
      | err z S' => rw [e] at q; exact q
      | stuck => rw [e] at q; exact q
  · exact q.elim
theorem opA_in {c : Nat} {kk : Nat} {mi : Mir} (hK : X.K = p.g.K) (h : HasM X.prog X.w p.g X.mg X.base c "__contains__" kk 2 mi) (hr : Room kk X.A) (tk : Takes X p.W) : OpA X (compareOp .In) (rIn2 p.g p.W c mi) := by
  intro pins s σ H x y v u Q I rx ry q
  obtain ⟨b, dy, ws, rfl, hb, q⟩ := q
  cases (show u = Value.ref b from ry)
  obtain ⟨sl', od', _, J', _⟩ := slt_inst I hb
  obtain ⟨m, hF⟩ := I.fr
  obtain ⟨f, hs, hf, _, F⟩ := h.ex
  rw [← hK] at hs hf F
  refine PySem.W.in_K hF I.ok.mod.kin J' hs hf ?_
  refine wpAny_mono (wp_fnA (us := [.ref b, v]) (vs := [.ref b, x]) F hr (passAt tk σ) I (.cons rfl (.cons rx .nil)) q) (fun w s' z => ?_) fun _ _ x => x
  obtain ⟨z', H', I', rz, k, rfl, qz⟩ := z
  cases rz
  exact wpAny_truthy_bool ⟨.bl k, H', I', rfl, qz⟩
/-- x.f, a slot -/
def cSlt (c : Nat) (i : Nat) (fa : CE) : CE := cUn (fun t => match t with
  | .inst d ts => if d = c then (ts[i]?).map fun t => ⟨.frz, t⟩ else none
  | _ => none) fa
theorem e_slt {c : Nat} {f : Str} {i : Nat} (hK : X.K = p.g.K) (oc : SCls p.g.K (p.g.cs c)) (sl : ∃ q, Slot1 p.g.K (p.g.cs c) f q i) (ha : EE X p a fa) (hb : attributeBase a f X.env (eval a X.env) = eval a X.env := by rfl) : EE X p (.Attribute a f pos) (cSlt c i fa) := by
  obtain ⟨qa, sl⟩ := sl
  refine PE.imp (pe_sl ha hb) fun σ H Q h => ?_
  refine tUn_of (r := fun x H1 Q => ∃ a C dx p vs i v, x = .ref a ∧ Slt H1 a C dx vs ∧ SCls X.K C ∧ Slot1 X.K C f p i ∧ vs[i]? = some (some v) ∧ Q v H1) ?_ h
  intro cc F1 μ1 S1 H1 F μ S ρ σ H x z v Q C1 C xx r e k
  dsimp only at e
  split at e
  · rename_i d ts e1
    split at e
    · rename_i hd
      subst hd
      obtain ⟨t, e2, rfl⟩ := Option.map_eq_some_iff.mp e
      obtain ⟨y, dx, vs, rfl, s1, fz⟩ := r.inst C.sub e1
      obtain ⟨u, hu, zz⟩ := fz.get e2
      rw [hK]
      exact ⟨y, _, dx, qa, _, i, u, rfl, s1, oc, sl, by rw [List.getElem?_map, hu]; rfl, k _ F μ H C (Ext.refl _ _ _) zz⟩
    · cases e
  · cases e
end
end EV

namespace EV
open PySem PySem.Spec PyProof.Rows L2 SlX

/-! ### isinstance of a built-in class -/
inductive Ty where | int | bool | str | tuple | list | dict
  deriving DecidableEq
def Ty.nm : Ty → String | .int => "int" | .bool => "bool" | .str => "str" | .tuple => "tuple" | .list => "list" | .dict => "dict"
inductive Kt where | non | bl | int | str | tup | lst | dic
def Kt.nm : Kt → String | .non => "NoneType" | .bl => "bool" | .int => "int" | .str => "str" | .tup => "tuple" | .lst => "list" | .dic => "dict"
def kt : T → Option Kt
  | .non => some .non | .bl _ => some .bl | .int _ => some .int | .str _ => some .str | .tup _ => some .tup | .lst _ => some .lst | .dic _ => some .dic | .dit _ => some .dic | _ => none
def ktIs : Kt → Ty → Bool
  | .bl, .bool => true | .bl, .int => true | .int, .int => true | .str, .str => true | .tup, .tuple => true | .lst, .list => true | .dic, .dict => true | _, _ => false
theorem kit_kt (k : Kt) (n : Ty) : kitB k.nm n.nm = some (ktIs k n) := by cases k <;> cases n <;> decide +kernel
theorem sqT_ty {K H a xs} (h : SqT K H a xs) : TyX K H (.ref a) (.type "tuple") := by
  rcases h with (h | ⟨o, h⟩) | ⟨o, its, n, h1, h2, _⟩
  · exact .base (.tup h)
  · exact .fTuple h
  · exact .kTuple h1 h2
theorem kt_ty {g : Gx} {Hs F μ H} {r : R} {v : V} {k : Kt} (h : RelR g Hs F μ H r v) (s : Sub F H) (e : kt r.t = some k) : TyX g.K H v (.type k.nm) := by
  cases q : r.t with
  | non => rw [q] at e; cases e; rw [h.non q]; exact .base .non
  | bl b => rw [q] at e; cases e; rw [h.bl q]; exact .base (.bl b)
  | int b => rw [q] at e; cases e; rw [h.int q]; exact .base (.int b)
  | str b => rw [q] at e; cases e; rw [h.str q]; exact .base (.str b)
  | tup ts => rw [q] at e; cases e; obtain ⟨a, vs, rfl, h1, _⟩ := h.tup s q; exact sqT_ty h1
  | lst ts => rw [q] at e; cases e; obtain ⟨a, vs, rfl, h1, _⟩ := h.lst s q; exact .base (.lst h1)
  | dic ts =>
    rw [q] at e; cases e
    obtain ⟨k, t⟩ := r
    cases q
    cases k with
    | frz => obtain ⟨a, vs, rfl, h1, h2⟩ := h; exact .base (.dK (s _ _ h1))
    | fresh => obtain ⟨a, rfl, ⟨vs, h1, h2⟩, _⟩ := h; exact .base (.dK h1)
    | place => obtain ⟨a, rfl, ⟨vs, h1, h2⟩⟩ := h; exact .base (.dK h1)
  | dit ts =>
    rw [q] at e; cases e
    obtain ⟨k, t⟩ := r
    cases q
    cases k with
    | frz => obtain ⟨a, vs, rfl, h1, h2⟩ := h; exact .base (.dT (s _ _ h1))
    | fresh => obtain ⟨a, rfl, ⟨vs, h1, h2⟩, _⟩ := h; exact .base (.dT h1)
    | place => obtain ⟨a, rfl, ⟨vs, h1, h2⟩⟩ := h; exact .base (.dT h1)
  | _ => rw [q] at e; cases e
section
variable {X : Cx} {p : Par} {a b e : Expr} {es : List Expr} {fa fb : CE} {ta tb : TE} {k : CA} {pos : Pos}
def oIsT (n : Ty) : Uop := fun t => (kt t).map fun k => ⟨.frz, .bl (ktIs k n)⟩
theorem e_isT {n : Ty} {p' : Pos} (hK : X.K = p.g.K) (hg : Gl X "isinstance") (hm : X.mg "isinstance" = none) (hc : PE X b (tC (.ty n.nm))) (ha : EE X p a fa)
    (he : starEach [a, b] X.env = (false, eval a X.env) :: starEach [b] X.env := by rfl) (hpl : (backTo pos (starEach [b] X.env)).any (·.1) = false := by rfl) (he2 : starEach [b] X.env = (false, eval b X.env) :: starEach [] X.env := by rfl) : EE X p (.Call (.Name "isinstance" p') [a, b] [] pos) (cUn (oIsT n) fa) := by
  refine PE.imp (pe_callB (x := "isinstance") call_isi hg hm boot_isinstance (pa_cons ha (pa_cons hc pa_nil he2) he) (by decide) (by decide) he hpl) fun σ H Q h => ?_
  refine tUn_of (r := fun x H1 Q => rIsi X.K [x, .ty n.nm] H1 Q) ?_ h
  intro cc F1 μ1 S1 H1 F μ S ρ σ H x z v Q C1 C xx r e k
  unfold oIsT at e
  obtain ⟨kk, e2, rfl⟩ := Option.map_eq_some_iff.mp e
  rw [hK]
  exact ⟨v, .ty n.nm, .type kk.nm, .type n.nm, _, rfl, .ty _, kt_ty r C.sub e2, kit_ty (kit_kt kk n), k _ F μ H C (Ext.refl _ _ _) rfl⟩
/-- isinstance of an own class with slots, asked of an instance of it -/
def oIsI (c : Nat) : Uop := fun t => match t with
  | .inst d _ => if d = c then some ⟨.frz, .bl true⟩ else none
  | _ => none
theorem e_isI {c : Nat} {x : Str} {p' p2 : Pos} (hK : X.K = p.g.K) (hg : Gl X "isinstance") (hm : X.mg "isinstance" = none) (oc : SCls p.g.K (p.g.cs c)) (si : SIsi p.g.K (p.g.cs c)) (hc : PE X (.Name x p2) (tC (.ref (p.g.cs c)))) (ha : EE X p a fa)
    (he : starEach [a, .Name x p2] X.env = (false, eval a X.env) :: starEach [.Name x p2] X.env := by rfl) (hpl : (backTo pos (starEach [.Name x p2] X.env)).any (·.1) = false := by rfl) (he2 : starEach [.Name x p2] X.env = (false, eval (.Name x p2) X.env) :: starEach [] X.env := by rfl) : EE X p (.Call (.Name "isinstance" p') [a, .Name x p2] [] pos) (cUn (oIsI c) fa) := by
  refine PE.imp (pe_callB (x := "isinstance") (call_isiSl (.ref (p.g.cs c))) hg hm boot_isinstance (pa_cons ha (pa_cons hc pa_nil he2) he) (by decide) (by decide) he hpl) fun σ H Q h => ?_
  refine tUn_of (r := fun x H1 Q => rIsiSl X.K (.ref (p.g.cs c)) [x, .ref (p.g.cs c)] H1 Q) ?_ h
  intro cc F1 μ1 S1 H1 F μ S ρ σ H x z v Q C1 C xx r e k
  unfold oIsI at e
  split at e
  · rename_i d ts e1
    split at e
    · rename_i hd
      subst hd
      cases e
      obtain ⟨y, dx, vs, rfl, s1, fz⟩ := r.inst C.sub e1
      rw [hK]
      exact ⟨y, _, dx, _, .ref (p.g.cs d), true, rfl, rfl, fun w h => h, s1, oc, si, by unfold PySem.W.kitOne; rw [if_pos (beq_self_eq_true _)], k _ F μ H C (Ext.refl _ _ _) rfl⟩
    · cases e
  · cases e

/-! ### truth of an instance -/
def cTruO (m : Mir) (c : Nat) (fa : CE) : CB := fun S ρ => (fa S ρ).bind fun x S1 => if isI c x && frzd x then (m S1 [x]).bind asB else .stuck
def TruA (X : Cx) (r : L2.St → V → Hp → (Bool → Hp → Prop) → Prop) : Prop :=
  ∀ (pins : List (Addr × Obj)) (s : Shared) (σ : L2.St) (H : Hp) (x : V) (v : Value) (Q : Bool → Hp → Prop), Inv X pins σ H s → RelV x v → r σ x H Q → wpAny (model X.prog X.w) X.A (truthy v) (TP X pins σ Q) X.xe s
def rTru (g : Gx) (W : WX) (c : Nat) (m : Mir) : L2.St → V → Hp → (Bool → Hp → Prop) → Prop := fun σ x H Q => ∃ a dx vs, x = .ref a ∧ Slt H a (g.cs c) dx vs ∧ spOf g 1 m [x] H (fun v H' => ∃ k, v = .bl k ∧ Q k H') (WE W σ)
theorem truA_own {c : Nat} {kk : Nat} {mi : Mir} (hK : X.K = p.g.K) (h : HasM X.prog X.w p.g X.mg X.base c "__bool__" kk 1 mi) (hr : Room kk X.A) (tk : Takes X p.W) : TruA X (rTru p.g p.W c mi) := by
  intro pins s σ H x v Q I rx q
  obtain ⟨b, dy, ws, rfl, hb, q⟩ := q
  cases (show v = Value.ref b from rx)
  obtain ⟨sl', od', _, J', _⟩ := slt_inst I hb
  obtain ⟨m, hF⟩ := I.fr
  obtain ⟨f, hs, hf, _, F⟩ := h.ex
  rw [← hK] at hs hf F
  refine PySem.W.truthy_K hF I.ok.mod.kin J' hs hf ?_
  refine wpAny_mono (wp_fnA (us := [.ref b]) (vs := [.ref b]) F hr (passAt tk σ) I (.cons rfl .nil) q) (fun w s' z => ?_) fun _ _ x => x
  obtain ⟨z', H', I', rz, k, rfl, qz⟩ := z
  cases rz
  exact ⟨H', I', qz⟩
theorem rel1 {g Hs F μ H x v} (r1 : RelR g Hs F μ H x v) : RelRs g Hs F μ H [x] [v] := .cons r1 .nil
theorem rTru_of {c : Nat} {mi : Mir} {σ H Q} (h : tOfB p (cTruO mi c fa) σ H Q) : tOf p fa σ H fun v H1 => rTru p.g p.W c mi σ v H1 Q := by
  obtain ⟨cc, F, μ, S, ρ, C, q⟩ := h
  refine tG.bind rsB C q fun x S1 v F1 μ1 H1 C1 x1 r1 q1 _ => ?_
  split at q1
  · rename_i hh
    simp only [Bool.and_eq_true] at hh
    obtain ⟨h2, h3⟩ := hh
    obtain ⟨us, e2⟩ := isI_ok h2
    obtain ⟨b, dy, ws, rfl, s2, _⟩ := r1.inst C1.sub e2
    refine ⟨b, dy, _, rfl, s2, call_of (ρ := ρ) C1 (fun r hr => ?_) (rel1 r1) rfl ?_⟩
    · have k2 : x.k = .frz := of_decide_eq_true h3
      rcases List.mem_cons.mp hr with rfl | hr
      · rw [k2]; exact fun z => nomatch z
      · cases hr
    · cases e : mi S1 [x] with
      | ok r S' =>
        rw [e] at q1
        intro v' F' μ' H' C' x' rr
        have q' := PostG.step rsB C' x' (show PostG p RelB cc σ ρ F1 μ1 H1 (asB r S') Q from q1)
        unfold asB at q'
        split at q'
        · rename_i bb eb
          exact ⟨bb, rr.bl eb, q' bb F' μ' H' C' (Ext.refl _ _ _) rfl⟩
        · exact q'.elim
      | err z S' => rw [e] at q1; exact q1
      | stuck => rw [e] at q1; exact q1
  · exact q1.elim
theorem b_truO {c : Nat} {kk : Nat} {mi : Mir} (hK : X.K = p.g.K) (h : HasM X.prog X.w p.g X.mg X.base c "__bool__" kk 1 mi) (hr : Room kk X.A) (tk : Takes X p.W) (ha : EE X p a fa) (he : ∀ whole, isTrue a X.env whole = (do let v ← whole; standAt a.pos; holding [v] (truthy v)) := by intro _; rfl) : EB' X p a (cTruO mi c fa) := by
  refine PT.imp (⟨fun pins s σ H Q I h' => ?_⟩ : PT X a (fun σ H Q => tOf p fa σ H fun x H' => rTru p.g p.W c mi σ x H' Q)) fun σ H Q hh => rTru_of hh
  exact isTrue_plain (thn (ha.run pins s σ H _ I h') fun v s1 ⟨x, H1, I1, r1, q1⟩ => truA_own hK h hr tk pins s1 σ H1 x v Q I1 r1 q1) (he _)
end
section
open PySem.W
variable {prog : Program} {w : World} {A : Around} {E : Value → Shared → Prop} {s : Shared} {x : Value}
/-- bool(x), whatever x's truth asks -/
theorem bool_any {Q : Value → Shared → Prop} (h : wpAny (model prog w) A.in1.in1 (truthy x) (fun b s₁ => Q (.bool b) s₁) E s) : wpAny (model prog w) A (call (.type "bool") [x]) Q E s := by
  refine callType_codes (T := "bool") (Bi := Builtin.«object.__init__») (Q₁ := fun r s₁ => ∃ b, r = Value.bool b ∧ Q r s₁) PySem.F.called_bool (PySem.F.typeCall_bool_1 _) PySem.F.entry_object_init ?_ ?_
  · refine codeAny_of_tree ?_
    show wpAny _ A.in1.in1 (do checkBuiltinCall "bool.__new__" ⟨[.type "bool", x], []⟩; again (.builtin "bool.__new__" ⟨[.type "bool", x], []⟩)) _ _ s
    refine wpAny_bind (wpAny_of_eq (PySem.F.newCall_bool_1 _) (wpAny_pure ⟨plainId_quiet (by decide +kernel) _, codeAny_builtin PySem.F.entry_bool_new ?_⟩))
    rw [Around.under_plainId (by decide +kernel) _]
    unfold Builtin.«bool.__new__»
    refine wpAny_bind (wpAny_of_eq (a := true) (by kernel_rfl) ?_)
    refine PySem.W.KFB.if_not rfl ?_
    refine wpAny_bind (wpAny_of_eq (a := true) PySem.F.conv_sub_bool ?_)
    refine PySem.W.KFB.if_not rfl ?_
    refine wpAny_bind (wpAny_of_eq (a := [x]) (by kernel_rfl) ?_)
    exact wpAny_bind (wpAny_mono h (fun b s' z => wpAny_pure ⟨b, rfl, z⟩) fun _ _ y => y)
  · rintro obj s₁ ⟨b, rfl, hq⟩
    exact ⟨PySem.typeIs_bool _ _, PySem.F.args_object_init_2 _ _, object_init_meets PySem.F.called_bool.init.lookup PySem.F.called_bool.made (by decide) prog w A.in1 _ s₁ ⟨PySem.typeIs_bool _ _, rfl, hq⟩⟩
end

section
variable {X : Cx} {p : Par} {a b e : Expr} {es : List Expr} {fa fb : CE} {ta tb : TE} {k : CA} {pos : Pos}
theorem run_atA {CX : CXT} {n : Nat} {g : Addr} {sp : Sp} {E : XK} {pins : List (Addr × Obj)} {σ : L2.St} {H : Hp} {s : Shared} {A : Around} {Q : VK} {us : List Value} {ws : List V} (F : FnR X.prog X.w X.K X.mg X.base CX n g sp) (hr : Room n A) (e0 : Env0 X.prog X.w X.K X.mg X.base A X.stack s H) (hx : PassesAt CX X σ E) (I : Inv X pins σ H s) (r : Vals ws us) (h : sp ws H Q E) :
    codeAny (model X.prog X.w) A (.call (.ref g) ⟨us, []⟩) (fun r s' => match r with | .ok (.ret v) => EP X pins σ Q v s' | .ok _ => False | .error e => X.xe e s') s := by
  refine codeAny_mono (F A X.stack s H us ws Q E hr e0 r h) fun r s' hq => ?_
  cases r with
  | error e => exact hx pins H s e s' I hq
  | ok fl =>
    cases fl with
    | ret u => exact I.after hq
    | next => exact False.elim hq
    | brk => exact False.elim hq
    | cont => exact False.elim hq
theorem e_boolO {c : Nat} {kk : Nat} {mi : Mir} {p' : Pos} (hK : X.K = p.g.K) (h : HasM X.prog X.w p.g X.mg X.base c "__bool__" kk 1 mi) (hr : Room (kk + 2) X.A) (tk : Takes X p.W) (hg : Gl X "bool") (hm : X.mg "bool" = none) (ha : EE X p a fa)
    (he : starEach [a] X.env = (false, eval a X.env) :: starEach [] X.env := by rfl) (hpl : (backTo pos (starEach [] X.env)).any (·.1) = false := by rfl) : EE X p (.Call (.Name "bool" p') [a] [] pos) (cB (cTruO mi c fa)) := by
  refine PE.imp (⟨fun pins s σ H Q I h' => ?_⟩ : PE X (.Call (.Name "bool" p') [a] [] pos) (fun σ H Q => tOf p fa σ H fun x H' => rTru p.g p.W c mi σ x H' fun b H2 => Q (.bl b) H2)) fun σ H Q hh => ?_
  · refine wpAny_Call_Name_kw (ld_blt (x := "bool") I hg hm PyProof.Rows.boot_bool ?_ (by decide) (by decide))
    refine PyProof.Rows.callWith_type1 (thn ((pa_cons ha pa_nil he).run pos pins s σ H (fun vs H1 => ∃ x, vs = [x] ∧ rTru p.g p.W c mi σ x H1 fun b H2 => Q (.bl b) H2) I ?_) fun us s1 ⟨vs, H1, I1, r1, x, ex, q1⟩ => ?_) he hpl
    · obtain ⟨c', F', μ', S', ρ', C', q'⟩ := h'
      refine ⟨c', F', μ', S', ρ', C', ?_⟩
      cases e : fa S' ρ' with
      | ok r S1 => rw [e] at q'; exact fun v F1 μ1 H1 C1 x1 r1 => ⟨v, rfl, q' v F1 μ1 H1 C1 x1 r1⟩
      | err y S1 => rw [e] at q'; exact q'
      | stuck => rw [e] at q'; exact q'
    subst ex
    obtain ⟨u, rfl, ru⟩ := r1.one
    obtain ⟨b, dy, ws, rfl, hb, q⟩ := q1
    cases (show u = Value.ref b from ru)
    obtain ⟨sl', od', _, J', _⟩ := slt_inst I1 hb
    obtain ⟨m, hF⟩ := I1.fr
    obtain ⟨f, hs, hf, _, F⟩ := h.ex
    rw [← hK] at hs hf F
    have hr2 : Room kk X.A.in1.in1 := (show Room (kk + 1) X.A.in1 from Room.in1 hr).in1
    refine bool_any (PySem.W.truthy_K hF I1.ok.mod.kin J' hs hf ?_)
    refine wpAny_mono (wpAny_call (run_atA (us := [.ref b]) (ws := [.ref b]) F hr2 I1.env0.in1.in1 (passAt tk σ) I1 (.cons rfl .nil) q)) (fun w s' z => ?_) fun _ _ x => x
    obtain ⟨z', H', I', rz, k, rfl, qz⟩ := z
    cases rz
    exact ⟨.bl k, H', I', rfl, qz⟩
  · refine rTru_of ?_
    obtain ⟨cc, F, μ, S, ρ, C, q⟩ := hh
    refine ⟨cc, F, μ, S, ρ, C, ?_⟩
    unfold cB at q
    cases e : cTruO mi c fa S ρ with
    | ok b S' =>
      rw [e] at q
      intro v F' μ' H' C' x' rr
      cases rr
      exact q _ F' μ' H' C' x' rfl
    | err y S' => rw [e] at q; exact q
    | stuck => rw [e] at q; exact q
end
end EV

namespace EV
open PySem PySem.Spec PyProof.Rows L2 SlX

/-! ### a new start: all that is fast now stays -/
open Classical in
noncomputable def C0.re (c : C0) (F1 : Hp) (μ1 : List Addr) (H1 : Hp) : C0 := ⟨F1, μ1, fun a => if a ∈ μ1 then H1 a else if F1 a = none then c.H a else F1 a⟩
section
variable {p : Par} {c : C0} {F1 : Hp} {μ1 : List Addr} {S1 : Store} {ρ1 : List Sl} {σ1 : L2.St} {H1 : Hp}
theorem re_mu {a} (h : a ∈ μ1) : (c.re F1 μ1 H1).H a = H1 a := by unfold C0.re; exact if_pos h
theorem re_f {a o} (h : a ∉ μ1) (e : F1 a = some o) : (c.re F1 μ1 H1).H a = some o := by unfold C0.re; show (if a ∈ μ1 then H1 a else if F1 a = none then c.H a else F1 a) = _; rw [if_neg h, if_neg (by rw [e]; exact fun z => nomatch z)]; exact e
theorem re_c {a} (h : a ∉ μ1) (e : F1 a = none) : (c.re F1 μ1 H1).H a = c.H a := by unfold C0.re; show (if a ∈ μ1 then H1 a else if F1 a = none then c.H a else F1 a) = _; rw [if_neg h, if_pos e]
theorem Cfg.re (C : Cfg p.g c F1 μ1 S1 ρ1 σ1 H1) : Cfg p.g (c.re F1 μ1 H1) F1 μ1 S1 ρ1 σ1 H1 := by
  refine ⟨C.sub, C.st, ⟨Sub.refl _, fun a o e => .inl e, Pre.refl _, fun a m => .inl m, fun a o e => ?_⟩, fun a o e => ?_, fun a m => ?_, C.len, fun i s o e1 e2 => ?_, C.ap⟩
  · by_cases m : a ∈ μ1
    · exact .inl m
    · cases q : F1 a with
      | none =>
        rw [re_c m q] at e
        exact .inr ((C.ext.kp a o e).resolve_left fun z => m (C.ext.pre.mem z))
      | some u => rw [re_f m q] at e; cases e; exact .inr (C.sub _ _ q)
  · have e : F1 a = some o := e
    by_cases m : a ∈ μ1
    · obtain ⟨_, _, _, _, f⟩ := C.st.ins m; rw [f] at e; cases e
    · exact re_f m e
  · have m : a ∈ μ1 := m
    obtain ⟨C', dx, vs, e, _⟩ := C.st.ins m
    exact ⟨C', dx, vs, by rw [re_mu m]; exact e⟩
  · have q := C.sl i s o e1 e2
    cases s with
    | no => trivial
    | val t => exact q
    | own t =>
      obtain ⟨a, e, b, f, h0⟩ := q
      exact ⟨a, e, b, f, by rw [re_c (b.ne_mem C.st) f]; exact h0⟩
    | bor t =>
      obtain ⟨a, e, b, k⟩ := q
      refine ⟨a, e, b, ?_⟩
      cases w : F1 a with
      | none => exact .inl (by rw [re_c (b.ne_mem C.st) w]; exact k.resolve_right fun z => by obtain ⟨u, hu⟩ := b.has; rw [w, hu] at z; cases z)
      | some u => exact .inr (C.sub _ _ w).symm
    | exc x => exact q
theorem re_none (C : Cfg p.g c F1 μ1 S1 ρ1 σ1 H1) {a} (h : (c.re F1 μ1 H1).H a = none) : c.H a = none := by
  by_cases m : a ∈ μ1
  · rw [re_mu m] at h; obtain ⟨_, _, _, e, _⟩ := C.st.ins m; rw [h] at e; cases e
  · cases q : F1 a with
    | none => rw [re_c m q] at h; exact h
    | some u => rw [re_f m q] at h; cases h
theorem re_ext (C : Cfg p.g c F1 μ1 S1 ρ1 σ1 H1) {F μ H} (x : Ext F1 μ1 (c.re F1 μ1 H1).H F μ H) : Ext c.F c.μ c.H F μ H where
  fr := C.ext.fr.trans x.fr
  new := fun a o e => by
    rcases x.new a o e with h | h
    · exact C.ext.new a o h
    · exact .inr (re_none C h)
  pre := C.ext.pre.trans x.pre
  obn := fun a m => by
    rcases x.obn a m with h | h
    · exact C.ext.obn a h
    · exact .inr (re_none C h)
  kp := fun a o e => by
    by_cases m : a ∈ μ1
    · rcases C.ext.obn a m with h | h
      · exact .inl h
      · rw [h] at e; cases e
    · have e1 : H1 a = some o := (C.ext.kp a o e).resolve_left fun z => m (C.ext.pre.mem z)
      have e2 : (c.re F1 μ1 H1).H a = some o := by
        cases q : F1 a with
        | none => rw [re_c m q]; exact e
        | some u => rw [re_f m q, ← C.sub _ _ q]; exact e1
      exact .inr ((x.kp a o e2).resolve_left m)
theorem Cfg.unre (C : Cfg p.g c F1 μ1 S1 ρ1 σ1 H1) {F μ S ρ σ H} (C' : Cfg p.g (c.re F1 μ1 H1) F μ S ρ σ H) : Cfg p.g c F μ S ρ σ H := by
  refine ⟨C'.sub, C'.st, re_ext C C'.ext, C.sub0, C.st0, C'.len, fun i s o e1 e2 => ?_, C'.ap⟩
  have q := C'.sl i s o e1 e2
  cases s with
  | no => trivial
  | val t => exact q
  | own t => obtain ⟨a, e, b, f, h0⟩ := q; exact ⟨a, e, b, f, re_none C h0⟩
  | bor t =>
    obtain ⟨a, e, b, k⟩ := q
    refine ⟨a, e, b, ?_⟩
    rcases k with k | k
    · obtain ⟨u, hu⟩ := b.has
      have m : a ∉ μ1 := fun z => b.ne_mem C'.st (C'.ext.pre.mem z)
      cases w : F1 a with
      | none => rw [re_c m w] at k; exact .inl k
      | some v => rw [re_f m w] at k; exact .inr (by rw [← k]; exact C'.ext.fr _ _ w)
    · exact .inr k
  | exc x => exact q
theorem PostS.re (C : Cfg p.g c F1 μ1 S1 ρ1 σ1 H1) {fl : Fl} {D : Ends} (h : PostS p c fl D) : PostS p (c.re F1 μ1 H1) fl D := by
  cases fl with
  | nx S ρ => exact fun F μ σ H C' => h F μ σ H (C.unre C')
  | rt r S => exact fun v F μ H s st x rr => h v F μ H s st (re_ext C x) (rr.start fun a e => re_none C e)
  | bk S ρ => exact fun F μ σ H C' => h F μ σ H (C.unre C')
  | ct S ρ => exact fun F μ σ H C' => h F μ σ H (C.unre C')
  | err x S ρ => exact fun cls d F μ σ H C' => h cls d F μ σ H (C.unre C')
  | stuck => exact h
end

/-! ### what is walked -/
/-- J gives these things one by one; stable: whatever is done between the turns -/
structure ItR (g : Gx) (c : C0) (Fi : Hp) (μi : List Addr) (Hi : Hp) (J : It) (ts : List T) (stable : Bool) : Prop where
  ex : ∃ G Y, Walk J ts.length G Y ∧ (stable = true → ∀ F μ S ρ σ H, Cfg g c F μ S ρ σ H → Sub Fi F → G H) ∧ (∀ F μ H, Ext Fi μi Hi F μ H → Sub F H → G H) ∧
    (∀ i H x H', i < ts.length → Y i H x H' → ∃ t, ts[i]? = some t ∧ ((H' = H ∧ Fz g Fi μi t x) ∨ ∃ a o, H a = none ∧ H' = upd H a o ∧ ∀ F μ, Sub Fi F → Pre μi μ → F a = some o → Fz g F μ t x))
abbrev CI := CF (Bool × List T)
def tOfI (p : Par) (f : CI) : TI := fun σ H R => ∃ c F μ S ρ, Cfg p.g c F μ S ρ σ H ∧ (match f S ρ with
  | .ok (b, ts) S' => ∀ J F' μ' H', Cfg p.g c F' μ' S' ρ σ H' → Ext F μ H F' μ' H' → ItR p.g c F' μ' H' J ts b → R J H'
  | .err x S' => ∀ cls d F' μ' H', Cfg p.g c F' μ' S' ρ σ H' → ExR p.g F' μ' H' x cls d → p.W cls d σ H'
  | .stuck => False)
def EI (X : Cx) (p : Par) (tg iter : Expr) (f : CI) : Prop := PI X tg iter (tOfI p f)
theorem PI.imp {X : Cx} {tg e : Expr} {t u : TI} (h : PI X tg e t) (k : ∀ σ H R, u σ H R → t σ H R) : PI X tg e u := ⟨fun pins s σ H R I q => h.run pins s σ H R I (k _ _ _ q)⟩
section
variable {X : Cx} {p : Par} {a b e tg : Expr} {es : List Expr} {fa fb : CE} {ta tb : TE} {k : CA} {pos : Pos}
theorem pi_seq {l : Expr} {tl : TE} (hl : PE X l tl) : PI X tg l (fun σ H R => tl σ H fun x H1 => (∃ a, x = .ref a ∧ (∃ xs, SqL X.K H1 a xs) ∧ R (Itl X.K a) H1) ∨ (∃ a, x = .ref a ∧ (∃ xs, SqT X.K H1 a xs) ∧ R (Itt X.K a) H1)) := by
  refine ⟨fun pins s σ H R I h => ?_⟩
  refine thn (hl.run pins s σ H _ I h) fun v s1 ⟨x, H1, I1, r1, q1⟩ => ?_
  have hv : PE (X := X) l (fun σ H Q => False) := ⟨fun _ _ _ _ _ _ z => z.elim⟩
  rcases q1 with ⟨a, rfl, ⟨xs, hq⟩, q⟩ | ⟨a, rfl, ⟨xs, hq⟩, q⟩
  · cases r1
    obtain ⟨its, rv, p, hz⟩ := I1.list hq
    refine wpAny_pyIter_list p.isList ?_
    refine ⟨s1.heap.objs.size, [s1.heap.objs.size], _, _, H1, rfl, I1.kept (t' := s1.toks) fun b o e => Heap.get?_push_of_some _ e, turn_list a _, ⟨_, Heap.get?_push_size _ rfl, rfl, rfl⟩, fun b hb => ?_, q⟩
    have e : b = s1.heap.objs.size := by simpa using hb
    subst e
    exact I1.fpOk (Nat.le_refl _) (I1.hok.fresh (Nat.le_refl _))
  · cases r1
    obtain ⟨its, rv, p, hz⟩ := I1.tuple hq
    refine wpAny_pyIter_tuple (show s1.heap.IsTuple a its.toArray from p) ?_
    refine ⟨s1.heap.objs.size, [s1.heap.objs.size], _, _, H1, rfl, I1.kept (t' := s1.toks) fun b o e => Heap.get?_push_of_some _ e, turn_tuple a _, ⟨_, Heap.get?_push_size _ rfl, rfl, rfl⟩, fun b hb => ?_, q⟩
    have e : b = s1.heap.objs.size := by simpa using hb
    subst e
    exact I1.fpOk (Nat.le_refl _) (I1.hok.fresh (Nat.le_refl _))
/-- the items of a list or a tuple -/
def seqI (r : R) (S : Store) : Res (Bool × List T) := match r.t with
  | .lst ts => .ok (decide (r.k ≠ .place), ts) S
  | .tup ts => .ok (true, ts) S
  | .scr ns => .ok (true, ns.map .int) S
  | _ => .stuck
def cSeqI (f : CE) : CI := fun S ρ => (f S ρ).bind seqI
theorem itr_lst {g : Gx} {c F μ H a vs ts b} (fz : FzL g F μ ts vs) (h : H a = some (.lst vs)) (nm : a ∉ μ) (hb : b = true → F a = some (.lst vs)) : ItR g c F μ H (Itl g.K a) ts b := by
  refine ⟨fun H => SqL g.K H a vs, YAt vs, by rw [fz.length]; exact walk_list (xs := vs), fun hs F' μ' S' ρ' σ' H' C' s1 => .inl (.inl (C'.sub _ _ (s1 _ _ (hb hs)))), fun F' μ' H' x _ => .inl (.inl ((x.kp _ _ h).resolve_left nm)), fun i H x H' hi y => ?_⟩
  obtain ⟨rfl, hy⟩ := y
  obtain ⟨t, e, z⟩ := fz.get' hy
  exact ⟨t, e, .inl ⟨rfl, z⟩⟩
theorem i_seq (hK : X.K = p.g.K) (ha : EE X p a fa) : EI X p tg a (cSeqI fa) := by
  refine PI.imp (pi_seq ha) fun σ H R h => ?_
  obtain ⟨c, F, μ, S, ρ, C, q⟩ := h
  refine ⟨c, F, μ, S, ρ, C, ?_⟩
  unfold cSeqI at q
  cases e : fa S ρ with
  | err x S1 => rw [e] at q; exact q
  | stuck => rw [e] at q; exact q
  | ok r S1 =>
    rw [e] at q
    have q : (match seqI r S1 with
      | .ok (b, ts) S' => ∀ J F' μ' H', Cfg p.g c F' μ' S' ρ σ H' → Ext F μ H F' μ' H' → ItR p.g c F' μ' H' J ts b → R J H'
      | .err x S' => ∀ cls d F' μ' H', Cfg p.g c F' μ' S' ρ σ H' → ExR p.g F' μ' H' x cls d → p.W cls d σ H'
      | .stuck => False) := q
    intro v F1 μ1 H1 C1 x1 r1
    unfold seqI at q
    cases et : r.t with
    | lst ts =>
      rw [et] at q
      obtain ⟨kd, t⟩ := r
      cases et
      rw [hK]
      cases kd with
      | frz =>
        obtain ⟨y, vs, rfl, h1, h2⟩ := r1
        have h3 := C1.sub _ _ h1
        refine .inl ⟨y, rfl, ⟨vs, .inl (.inl h3)⟩, q _ F1 μ1 H1 C1 x1 (itr_lst h2 h3 (fun m => ?_) fun _ => h1)⟩
        obtain ⟨_, _, _, z, _⟩ := C1.st.ins m
        rw [h3] at z; cases z
      | fresh =>
        obtain ⟨y, rfl, bx, f, hs⟩ := r1
        obtain ⟨C2, x2⟩ := Cfg.freeze C C1 x1 bx f hs
        have nm := bx.ne_mem C1.st
        obtain ⟨vs, h1, h2⟩ := bx
        exact .inl ⟨y, rfl, ⟨vs, .inl (.inl h1)⟩, q _ _ μ1 H1 C2 x2 (itr_lst (FzL.mono (froz_sub f) (Pre.refl _) h2) h1 nm fun _ => by rw [froz_same]; exact h1)⟩
      | place =>
        obtain ⟨y, rfl, bx⟩ := r1
        have nm := bx.ne_mem C1.st
        obtain ⟨vs, h1, h2⟩ := bx
        exact .inl ⟨y, rfl, ⟨vs, .inl (.inl h1)⟩, q _ F1 μ1 H1 C1 x1 (itr_lst h2 h1 nm fun z => by cases z)⟩
    | tup ts =>
      have r2 := r1.flat (by rw [et]; intro _ z; cases z) (by rw [et]; intro _ z; cases z) (by rw [et]; intro _ z; cases z)
      rw [et] at q r2
      obtain ⟨y, vs, rfl, h1, h2⟩ := r2
      rw [hK]
      refine .inr ⟨y, rfl, ⟨vs, sqT_sub C1.sub h1⟩, q _ F1 μ1 H1 C1 x1 ⟨fun H => SqT p.g.K H y vs, YAt vs, by rw [h2.length]; exact walk_tup (xs := vs), fun _ F' μ' S' ρ' σ' H' C' s1 => sqT_sub C'.sub (sqT_sub s1 h1), fun F' μ' H' x s => sqT_sub s (sqT_sub x.fr h1), fun i H x H' hi y => ?_⟩⟩
      obtain ⟨rfl, hy⟩ := y
      obtain ⟨t, e, z⟩ := h2.get' hy
      exact ⟨t, e, .inl ⟨rfl, z⟩⟩
    | scr ns =>
      have r2 := r1.flat (by rw [et]; intro _ z; cases z) (by rw [et]; intro _ z; cases z) (by rw [et]; intro _ z; cases z)
      rw [et] at q r2
      obtain ⟨y, rfl, h1⟩ := r2
      rw [hK]
      refine .inl ⟨y, rfl, ⟨_, sqL_sub C1.sub h1⟩, q _ F1 μ1 H1 C1 x1 ⟨fun H => SqL p.g.K H y (ns.map V.int), YAt (ns.map V.int), by rw [List.length_map, ← List.length_map V.int]; exact walk_list (xs := ns.map V.int), fun _ F' μ' S' ρ' σ' H' C' s1 => sqL_sub C'.sub (sqL_sub s1 h1), fun F' μ' H' x s => sqL_sub s (sqL_sub x.fr h1), fun i H x H' hi y => ?_⟩⟩
      obtain ⟨rfl, hy⟩ := y
      obtain ⟨t, e, z⟩ := (FzL.ints ns).get' hy
      exact ⟨t, e, .inl ⟨rfl, z⟩⟩
    | _ => rw [et] at q; exact q.elim

/-- a name's list, walked -/
def cNmI (i : Nat) : CI := fun S ρ => match ρ[i]? with
  | some (.val t) => seqI ⟨.frz, t⟩ S
  | some (.own t) => seqI ⟨.place, t⟩ S
  | some (.bor (.lst ts)) => .ok (true, ts) S
  | _ => .stuck
theorem i_nm {i : Nat} {x : Str} (hK : X.K = p.g.K) (h : PE X (.Name x pos) (tVar i)) : EI X p tg (.Name x pos) (cNmI i) := by
  have hv : EE X p (.Name x pos) (cVar i) := e_var h
  refine ⟨fun pins s σ H Rq I hh => ?_⟩
  obtain ⟨c, F, μ, S, ρ, C, q⟩ := hh
  unfold cNmI at q
  cases e : ρ[i]? with
  | none => rw [e] at q; exact q.elim
  | some sl =>
    rw [e] at q
    have viaSeq : ∀ r : R, cVar i S ρ = .ok r S → (match seqI r S with
      | .ok (b, ts) S' => ∀ J F' μ' H', Cfg p.g c F' μ' S' ρ σ H' → Ext F μ H F' μ' H' → ItR p.g c F' μ' H' J ts b → Rq J H'
      | .err x S' => ∀ cls d F' μ' H', Cfg p.g c F' μ' S' ρ σ H' → ExR p.g F' μ' H' x cls d → p.W cls d σ H'
      | .stuck => False) → wpAny (model X.prog X.w) X.A (eval (.Name x pos) X.env) (fun v s1 => wpAny (model X.prog X.w) X.A (pyIter v) (PIE X pins σ tg Rq) X.xe s1) X.xe s := by
      intro r er q
      refine (i_seq (tg := tg) hK hv).run pins s σ H Rq I ⟨c, F, μ, S, ρ, C, ?_⟩
      unfold cSeqI
      rw [er]
      exact q
    cases sl with
    | no => exact q.elim
    | exc x => exact q.elim
    | val t => exact viaSeq ⟨.frz, t⟩ (by unfold cVar; rw [e]) q
    | own t => exact viaSeq ⟨.place, t⟩ (by unfold cVar; rw [e]) q
    | bor t =>
      cases t with
      | lst ts =>
        have hi : i < σ.length := by rw [← C.len]; exact (List.getElem?_eq_some_iff.mp e).1
        have hs : σ[i]? = some σ[i] := List.getElem?_eq_getElem hi
        obtain ⟨y, e2, bx, k⟩ := C.sl i _ _ e hs
        have nm := bx.ne_mem C.st
        obtain ⟨vs, h1, h2⟩ := bx
        refine (pi_seq (tg := tg) h).run pins s σ H Rq I ⟨.ref y, by rw [hs, e2], .inl ⟨y, rfl, ⟨vs, .inl (.inl h1)⟩, ?_⟩⟩
        rw [hK]
        refine q _ F μ H C (Ext.refl _ _ _) ⟨fun H' => SqL p.g.K H' y vs, YAt vs, by rw [h2.length]; exact walk_list (xs := vs), fun _ F' μ' S' ρ' σ' H' C' s1 => ?_, fun F' μ' H' x _ => .inl (.inl ((x.kp _ _ h1).resolve_left nm)), fun j H0 z H' hj y' => ?_⟩
        · rcases k with k | k
          · have : y ∉ c.μ := fun m => by obtain ⟨_, _, _, z⟩ := C.st0 y m; rw [k, h1] at z; cases z
            exact .inl (.inl ((C'.ext.kp y _ (by rw [k]; exact h1)).resolve_left this))
          · exact .inl (.inl (C'.sub _ _ (s1 _ _ (by rw [k]; exact h1))))
        · obtain ⟨rfl, hy⟩ := y'
          obtain ⟨t, et, z⟩ := h2.get' hy
          exact ⟨t, et, .inl ⟨rfl, z⟩⟩
      | _ => exact q.elim

/-! ### targets -/
abbrev Tgt := T → List Sl → Option (List Sl)
theorem wipe_get {σ : L2.St} {i : Nat} : ∀ {vs : List Nat}, i ∉ vs → (wipe σ vs)[i]? = σ[i]?
  | [], _ => rfl
  | v :: vs, h => by
    unfold wipe
    rw [List.getElem?_set_ne (fun e => h (by rw [e]; exact List.mem_cons_self)), wipe_get fun m => h (List.mem_cons_of_mem _ m)]
theorem wipe_in {σ : L2.St} {i : Nat} : ∀ {vs : List Nat}, i ∈ vs → i < σ.length → (wipe σ vs)[i]? = some none
  | v :: vs, h, hi => by
    unfold wipe
    by_cases e : v = i
    · rw [e, List.getElem?_set_self (by rw [wipe_length]; exact hi)]
    · rw [List.getElem?_set_ne e]
      rcases List.mem_cons.mp h with h | h
      · exact absurd h.symm e
      · exact wipe_in h hi
theorem wipe_idem {σ : L2.St} {vs : List Nat} : wipe (wipe σ vs) vs = wipe σ vs := by
  apply List.ext_getElem?
  intro j
  by_cases hj : j ∈ vs
  · by_cases hl : j < σ.length
    · rw [wipe_in hj (by rw [wipe_length]; exact hl), wipe_in hj hl]
    · rw [List.getElem?_eq_none (by rw [wipe_length, wipe_length]; omega), List.getElem?_eq_none (by rw [wipe_length]; omega)]
  · rw [wipe_get hj]
theorem wipe_set {σ : L2.St} {i : Nat} {x : Option V} {vs : List Nat} (h : i ∈ vs) : wipe (σ.set i x) vs = wipe σ vs := by
  apply List.ext_getElem?
  intro j
  by_cases hj : j ∈ vs
  · by_cases hl : j < σ.length
    · rw [wipe_in hj (by rw [List.length_set]; exact hl), wipe_in hj hl]
    · rw [List.getElem?_eq_none (by rw [wipe_length, List.length_set]; omega), List.getElem?_eq_none (by rw [wipe_length]; omega)]
  · rw [wipe_get hj, wipe_get hj, List.getElem?_set_ne (fun e => hj (by rw [← e]; exact h))]
def tOfG (p : Par) (vs : List Nat) (f : Tgt) : TG := fun x σ H Q => ∃ c F μ S ρ t, Cfg p.g c F μ S ρ σ H ∧ Fz p.g F μ t x ∧ (match f t ρ with
  | some ρ' => ∀ σ', Cfg p.g c F μ S ρ' σ' H → wipe σ' vs = wipe σ vs → Q σ' H
  | none => False)
def EG (X : Cx) (p : Par) (tg : Expr) (vs : List Nat) (f : Tgt) : Prop := PG X tg (tOfG p vs f)
theorem PG.imp {e : Expr} {t u : TG} (h : PG X e t) (k : ∀ x σ H Q, u x σ H Q → t x σ H Q) : PG X e u := ⟨fun pins s σ H v uu Q I r q => h.run pins s σ H v uu Q I r (k _ _ _ _ q)⟩
def gNm (i : Nat) : Tgt := fun t ρ => some (ρ.set i (.val t))
theorem g_nm {i : Nat} {x : Str} {vs : List Nat} (hN : X.N.Nodup) (hi : X.N[i]? = some x) (hx : Loc X.env.scope x) (hv : i ∈ vs := by decide) (hf : X.fn x = true ∨ X.env.scope.names.lookup x = some .local := by first | exact .inl rfl | exact .inr rfl | assumption) : EG X p (.Name x pos) vs (gNm i) := by
  refine PG.imp (pg_name hN hi hx hf) fun x σ H Q h => ?_
  obtain ⟨c, F, μ, S, ρ, t, C, z, q⟩ := h
  exact q _ (Cfg.set (r := ⟨.frz, t⟩) C C z rfl) (wipe_set hv)
def gsT : List Tgt → List T → List Sl → Option (List Sl)
  | [], [], ρ => some ρ
  | f :: fs, t :: ts, ρ => (f t ρ).bind (gsT fs ts)
  | _, _, _ => none
def gTp (fs : List Tgt) : Tgt := fun t ρ => match t with
  | .tup ts => gsT fs ts ρ
  | _ => none
def tOfGs (p : Par) (vs : List Nat) (fs : List Tgt) : TGs := fun xs σ H Q => ∃ c F μ S ρ ts, Cfg p.g c F μ S ρ σ H ∧ FzL p.g F μ ts xs ∧ (match gsT fs ts ρ with
  | some ρ' => ∀ σ', Cfg p.g c F μ S ρ' σ' H → wipe σ' vs = wipe σ vs → Q σ' H
  | none => False)
def EGs (X : Cx) (p : Par) (tg : List Expr) (vs : List Nat) (f : List Tgt) : Prop := PGs X tg (tOfGs p vs f)
theorem PGs.imp {e : List Expr} {t u : TGs} (h : PGs X e t) (k : ∀ x σ H Q, u x σ H Q → t x σ H Q) : PGs X e u := ⟨fun pins s σ H v uu Q I r q => h.run pins s σ H v uu Q I r (k _ _ _ _ q)⟩
theorem gs_nil {vs : List Nat} : EGs X p [] vs [] := by
  refine PGs.imp pgs_nil fun x σ H Q h => ?_
  obtain ⟨c, F, μ, S, ρ, ts, C, z, q⟩ := h
  cases ts with
  | nil => have z : x = [] := z; exact ⟨z, q σ C rfl⟩
  | cons _ _ => exact q.elim
theorem gs_cons {f : Tgt} {vs : List Nat} {fs : List Tgt} (h1 : EG X p e vs f) (h2 : EGs X p es vs fs) (hs : (assignEach (e :: es) X.env).map (·.2) = assign e X.env :: (assignEach es X.env).map (·.2) := by rfl) : EGs X p (e :: es) vs (f :: fs) := by
  refine PGs.imp (pgs_cons h1 h2 hs) fun x σ H Q h => ?_
  obtain ⟨c, F, μ, S, ρ, ts, C, z, q⟩ := h
  cases ts with
  | nil => exact q.elim
  | cons t ts =>
    obtain ⟨v, r, rfl, a, b⟩ := z
    refine ⟨v, r, rfl, c, F, μ, S, ρ, t, C, a, ?_⟩
    have q : (match (f t ρ).bind (gsT fs ts) with | some ρ' => ∀ σ', Cfg p.g c F μ S ρ' σ' H → wipe σ' vs = wipe σ vs → Q σ' H | none => False) := q
    cases e1 : f t ρ with
    | none => rw [e1] at q; exact q
    | some ρ1 =>
      rw [e1] at q
      refine fun σ1 C1 w1 => ⟨c, F, μ, S, ρ1, ts, C1, b, ?_⟩
      have q : (match gsT fs ts ρ1 with | some ρ' => ∀ σ', Cfg p.g c F μ S ρ' σ' H → wipe σ' vs = wipe σ vs → Q σ' H | none => False) := q
      rw [w1]
      exact q
theorem g_tup {kk : Nat} {vs : List Nat} {fs : List Tgt} (hK : X.K = p.g.K) (hc : X.calm = true) (h : EGs X p es vs fs) (hl : fs.length = (assignEach es X.env).length := by rfl) (hst : (assignEach es X.env).findIdx? (·.1) = none := by rfl) : EG X p (.Tuple es kk pos) vs (gTp fs) := by
  refine PG.imp (pg_tup (n := fs.length) hc h hl.symm hst) fun x σ H Q h => ?_
  obtain ⟨c, F, μ, S, ρ, t, C, z, q⟩ := h
  cases t with
  | tup ts =>
    obtain ⟨y, vs', rfl, h1, h2⟩ := z
    have q : (match gsT fs ts ρ with | some ρ' => ∀ σ', Cfg p.g c F μ S ρ' σ' H → wipe σ' vs = wipe σ vs → Q σ' H | none => False) := q
    have hl : ∀ (fs : List Tgt) (ts : List T) (ρ ρ' : List Sl), gsT fs ts ρ = some ρ' → ts.length = fs.length := by
      intro fs
      induction fs with
      | nil => intro ts ρ ρ' h; cases ts with
        | nil => rfl
        | cons _ _ => cases h
      | cons f fs ih => intro ts ρ ρ' h; cases ts with
        | nil => cases h
        | cons t ts =>
          have h : (f t ρ).bind (gsT fs ts) = some ρ' := h
          cases e : f t ρ with
          | none => rw [e] at h; cases h
          | some ρ1 => rw [e] at h; rw [List.length_cons, List.length_cons, ih ts ρ1 ρ' h]
    cases e : gsT fs ts ρ with
    | none => rw [e] at q; exact q.elim
    | some ρ' =>
      rw [hK]
      exact ⟨y, vs', rfl, sqT_sub C.sub h1, by rw [← h2.length]; exact hl _ _ _ _ e, c, F, μ, S, ρ, ts, C, h2, by rw [e]; rw [e] at q; exact q⟩
  | _ => exact q.elim

/-! ### for -/
def loopK (f : List Sl → Store → Fl) (fl : Fl) : Fl := match fl with
  | .nx S ρ => f ρ S
  | .ct S ρ => f ρ S
  | .bk S ρ => .nx S ρ
  | o => o
def forL (ft : Tgt) (body : CS) : List T → Store → List Sl → Fl
  | [], S, ρ => .nx S ρ
  | t :: ts, S, ρ => match ft t ρ with
    | none => .stuck
    | some ρ1 => loopK (fun ρ' S' => forL ft body ts S' ρ') (body S ρ1)
def sFor (fi : CI) (ft : Tgt) (body : CS) : CS := fun S ρ => onR (fi S ρ) ρ fun bt S1 => if bt.1 = true then forL ft body bt.2 S1 ρ else .stuck
theorem s_for {iter : Expr} {vs : List Nat} {body : List Stmt} {fi : CI} {ft : Tgt} {fb : CS} (hp : PassesOwn (model X.prog X.w) X.A X.env X.xe) (hc : X.calm = true) (hi : EI X p tg iter fi) (hg : EG X p tg vs ft) (hb : SB X p body fb)
    (hs : ∀ x, foldedSetIterable iter X.env x = pure x := by intro _; rfl) : SS X p (.For tg iter body [] pos) (sFor fi ft fb) := by
  refine PS.imp (ps_for hp hc hi hg hb hs) fun D σ H h => ?_
  obtain ⟨c, F, μ, S, ρ, C, q⟩ := h
  refine ⟨c, F, μ, S, ρ, C, ?_⟩
  unfold sFor at q
  cases e : fi S ρ with
  | err x S1 => rw [e] at q; exact fun cls d F' μ' H' C' ex => q cls d F' μ' σ H' C' ex
  | stuck => rw [e] at q; exact q
  | ok bt S1 =>
    rw [e] at q
    obtain ⟨b, ts⟩ := bt
    intro J F1 μ1 H1 C1 x1 it
    have q : PostS p c (if b = true then forL ft fb ts S1 ρ else .stuck) D := q
    cases b with
    | false => exact q.elim
    | true =>
      have q : PostS p c (forL ft fb ts S1 ρ) D := q
      have q := q.re C1
      obtain ⟨G, Y, w, g1, _, yl⟩ := it.ex
      refine for_it w (fun i σ' H' => ∃ F' μ' S' ρ', Cfg p.g (c.re F1 μ1 H1) F' μ' S' ρ' σ' H' ∧ PostS p (c.re F1 μ1 H1) (forL ft fb (ts.drop i) S' ρ') D) ⟨F1, μ1, S1, ρ, C1.re, q⟩ (fun i σ' H' _ ⟨F', μ', S', ρ', C', _⟩ => g1 rfl F' μ' S' ρ' σ' H' (C1.unre C') C'.ext.fr) ?_ ?_
      · rintro i x σ' H2 H3 hi ⟨F', μ', S', ρ', C', q'⟩ y
        obtain ⟨t, et, z⟩ := yl i H2 x H3 hi y
        have ed : ts.drop i = t :: ts.drop (i + 1) := by
          rw [List.drop_eq_getElem_cons hi]
          have := List.getElem?_eq_getElem hi
          rw [et] at this
          cases this; rfl
        rw [ed] at q'
        have fin : ∀ F3 H3', Cfg p.g (c.re F1 μ1 H1) F3 μ' S' ρ' σ' H3' → Fz p.g F3 μ' t x → tOfG p vs ft x σ' H3' fun σ2 H4 => tOfS p fb { D with nx := fun σ' H' => ∃ F' μ' S' ρ', Cfg p.g (c.re F1 μ1 H1) F' μ' S' ρ' σ' H' ∧ PostS p (c.re F1 μ1 H1) (forL ft fb (ts.drop (i + 1)) S' ρ') D, ct := fun σ' H' => ∃ F' μ' S' ρ', Cfg p.g (c.re F1 μ1 H1) F' μ' S' ρ' σ' H' ∧ PostS p (c.re F1 μ1 H1) (forL ft fb (ts.drop (i + 1)) S' ρ') D, bk := D.nx } σ2 H4 := by
          intro F3 H3' C3 z
          refine ⟨_, F3, μ', S', ρ', t, C3, z, ?_⟩
          unfold forL at q'
          cases ef : ft t ρ' with
          | none => rw [ef] at q'; exact q'.elim
          | some ρ1 =>
            rw [ef] at q'
            intro σ2 C4 _
            refine ⟨_, F3, μ', S', ρ1, C4, ?_⟩
            have q' : PostS p (c.re F1 μ1 H1) (loopK (fun ρ' S' => forL ft fb (ts.drop (i + 1)) S' ρ') (fb S' ρ1)) D := q'
            cases eb : fb S' ρ1 with
            | nx S5 ρ5 => rw [eb] at q'; exact fun F5 μ5 σ5 H5 C5 => ⟨F5, μ5, S5, ρ5, C5, q'⟩
            | ct S5 ρ5 => rw [eb] at q'; exact fun F5 μ5 σ5 H5 C5 => ⟨F5, μ5, S5, ρ5, C5, q'⟩
            | bk S5 ρ5 => rw [eb] at q'; exact q'
            | rt r S5 => rw [eb] at q'; exact q'
            | err x S5 ρ5 => rw [eb] at q'; exact q'
            | stuck => rw [eb] at q'; exact q'
        rcases z with ⟨rfl, z⟩ | ⟨y', o, hn, rfl, z⟩
        · exact fin F' H3 C' (Fz.mono C'.ext.fr C'.ext.pre z)
        · obtain ⟨C3, x3⟩ := C'.laidF (a := y') (o := o) hn
          exact fin _ _ C3 (z _ _ (C'.ext.fr.trans x3.fr) C'.ext.pre upd_same)
      · rintro σ' H' ⟨F', μ', S', ρ', C', q'⟩
        rw [List.drop_length] at q'
        exact q' F' μ' σ' H' C'
end
end EV

namespace EV
open PySem PySem.Spec PyProof.Rows L2 SlX

/-! ### ranges -/
def rngT (lo : Int) (n : Nat) : List T := (List.range n).map fun i => .int (lo + (i : Nat))
def inB (i : Int) : Bool := decide (-(2 ^ 62) ≤ i) && decide (i < 2 ^ 62)
def rng1I (rs : List R) (S : Store) : Res (Bool × List T) := match rs.map R.t with
  | [.int j] => if inB j then .ok (true, rngT 0 j.toNat) S else .stuck
  | _ => .stuck
def rng2I (rs : List R) (S : Store) : Res (Bool × List T) := match rs.map R.t with
  | [.int i, .int j] => if inB i && inB j then .ok (true, rngT i (j - i).toNat) S else .stuck
  | _ => .stuck
def cRng1 (k : CA) : CI := fun S ρ => (k S ρ).bind rng1I
def cRng2 (k : CA) : CI := fun S ρ => (k S ρ).bind rng2I
section
variable {X : Cx} {p : Par} {a b e tg : Expr} {es : List Expr} {fa fb : CE} {ta tb : TE} {k : CA} {pos : Pos}
theorem itr_rng {g : Gx} {c F μ H} {lo : Int} {n : Nat} : ItR g c F μ H (Itr lo n) (rngT lo n) true := by
  refine ⟨fun _ => True, YFn fun i => .int (lo + i), ?_, fun _ _ _ _ _ _ _ _ _ => trivial, fun _ _ _ _ _ => trivial, fun i H x H' hi y => ?_⟩
  · have : (rngT lo n).length = n := by unfold rngT; rw [List.length_map, List.length_range]
    rw [this]; exact walk_range
  · obtain ⟨rfl, rfl⟩ := y
    unfold rngT at hi
    rw [List.length_map, List.length_range] at hi
    refine ⟨.int (lo + (i : Nat)), ?_, .inl ⟨rfl, rfl⟩⟩
    unfold rngT
    rw [List.getElem?_map, List.getElem?_range hi]; rfl
theorem tI_bind {f : CA} {kk : List R → Store → Res (Bool × List T)} {c σ ρ F μ S H} {R : It → Hp → Prop} {Q : List V → Hp → Prop} (C : Cfg p.g c F μ S ρ σ H)
    (h : match (f S ρ).bind kk with
      | .ok (b, ts) S' => ∀ J F' μ' H', Cfg p.g c F' μ' S' ρ σ H' → Ext F μ H F' μ' H' → ItR p.g c F' μ' H' J ts b → R J H'
      | .err x S' => ∀ cls d F' μ' H', Cfg p.g c F' μ' S' ρ σ H' → ExR p.g F' μ' H' x cls d → p.W cls d σ H'
      | .stuck => False)
    (next : ∀ rs S1 vs F1 μ1 H1, Cfg p.g c F1 μ1 S1 ρ σ H1 → Ext F μ H F1 μ1 H1 → RelRs p.g H F1 μ1 H1 rs vs → (match kk rs S1 with
      | .ok (b, ts) S' => ∀ J F' μ' H', Cfg p.g c F' μ' S' ρ σ H' → Ext F μ H F' μ' H' → ItR p.g c F' μ' H' J ts b → R J H'
      | .err x S' => ∀ cls d F' μ' H', Cfg p.g c F' μ' S' ρ σ H' → ExR p.g F' μ' H' x cls d → p.W cls d σ H'
      | .stuck => False) → Q vs H1) : tOfA p f σ H Q := by
  refine ⟨c, F, μ, S, ρ, C, ?_⟩
  cases e : f S ρ with
  | ok r S1 => rw [e] at h; exact fun v F1 μ1 H1 C1 x1 q => next r S1 v F1 μ1 H1 C1 x1 q h
  | err y S1 => rw [e] at h; exact h
  | stuck => rw [e] at h; exact h
theorem inB_ok {i : Int} (h : inB i = true) : -(2 ^ 62) ≤ i ∧ i < 2 ^ 62 := by
  unfold inB at h
  rw [Bool.and_eq_true] at h
  exact ⟨of_decide_eq_true h.1, of_decide_eq_true h.2⟩
theorem i_rng1 {p' : Pos} (hg : Gl X "range") (hm : X.mg "range" = none) (ha : EA X p [a] k) (hs : starEach [a] X.env = [(false, eval a X.env)] := by rfl) : EI X p tg (.Call (.Name "range" p') [a] [] pos) (cRng1 k) := by
  refine PI.imp (pi_range1 hg hm ha hs) fun σ H R h => ?_
  obtain ⟨c, F, μ, S, ρ, C, q⟩ := h
  refine tI_bind C q fun rs S1 vs F1 μ1 H1 C1 x1 r1 q1 => ?_
  unfold rng1I at q1
  split at q1
  · rename_i b ts S' e
    split at e
    · rename_i j ej
      obtain ⟨x, v, rfl, rfl, h1, h2⟩ := relRs1 r1 ej
      split at e
      · rename_i hb
        cases e
        exact ⟨j, by rw [h2.int h1], (inB_ok hb).1, (inB_ok hb).2, q1 _ F1 μ1 H1 C1 x1 itr_rng⟩
      · cases e
    · cases e
  · rename_i e
    split at e
    · split at e <;> cases e
    · cases e
  · exact q1.elim
theorem i_rng2 {p' : Pos} (hg : Gl X "range") (hm : X.mg "range" = none) (ha : EA X p [a, b] k) (hs : starEach [a, b] X.env = [(false, eval a X.env), (false, eval b X.env)] := by rfl) (hs2 : starEach [b] X.env = [(false, eval b X.env)] := by rfl) : EI X p tg (.Call (.Name "range" p') [a, b] [] pos) (cRng2 k) := by
  refine PI.imp (pi_range2 hg hm ha hs hs2) fun σ H R h => ?_
  obtain ⟨c, F, μ, S, ρ, C, q⟩ := h
  refine tI_bind C q fun rs S1 vs F1 μ1 H1 C1 x1 r1 q1 => ?_
  unfold rng2I at q1
  split at q1
  · rename_i b ts S' e
    split at e
    · rename_i i j ej
      obtain ⟨x, y, v, w, rfl, rfl, h1, h2, h3, h4⟩ := relRs2 r1 ej
      split at e
      · rename_i hb
        cases e
        rw [Bool.and_eq_true] at hb
        exact ⟨i, j, by rw [h3.int h1, h4.int h2], ⟨(inB_ok hb.1).1, (inB_ok hb.1).2, (inB_ok hb.2).1, (inB_ok hb.2).2⟩, q1 _ F1 μ1 H1 C1 x1 itr_rng⟩
      · cases e
    · cases e
  · rename_i e
    split at e
    · split at e <;> cases e
    · cases e
  · exact q1.elim

/-! ### comprehensions -/
def wipeS (ρ : List Sl) : List Nat → List Sl
  | [] => ρ
  | v :: vs => (wipeS ρ vs).set v .no
theorem Cfg.unset {g c F μ S ρ σ H i} (C : Cfg g c F μ S ρ σ H) : Cfg g c F μ S (ρ.set i .no) (σ.set i none) H := by
  refine ⟨C.sub, C.st, C.ext, C.sub0, C.st0, by rw [List.length_set, List.length_set, C.len], fun j sl o e1 e2 => ?_, fun j k t u a e1 e2 e3 e4 => ?_⟩
  · by_cases hj : i = j
    · subst hj
      have hi : i < ρ.length := by
        have := (List.getElem?_eq_some_iff.mp e1).1
        rwa [List.length_set] at this
      rw [List.getElem?_set_self hi] at e1
      cases e1; trivial
    · rw [List.getElem?_set_ne hj] at e1 e2
      exact C.sl j sl o e1 e2
  · have ne : ∀ (j : Nat) (t : T), (ρ.set i .no)[j]? = some (.own t) → i ≠ j := by
      intro j t e hj
      subst hj
      have hi : i < ρ.length := by
        have := (List.getElem?_eq_some_iff.mp e).1
        rwa [List.length_set] at this
      rw [List.getElem?_set_self hi] at e; cases e
    have n1 := ne j t e1
    have n2 := ne k u e2
    rw [List.getElem?_set_ne n1] at e1 e3
    rw [List.getElem?_set_ne n2] at e2 e4
    exact C.ap j k t u a e1 e2 e3 e4
theorem Cfg.wipe {g c F μ S ρ σ H} (C : Cfg g c F μ S ρ σ H) : ∀ vs, Cfg g c F μ S (wipeS ρ vs) (L2.wipe σ vs) H
  | [] => C
  | v :: vs => (Cfg.wipe C vs).unset
/-- the items that a comprehension gives -/
def compL (ft : Tgt) (ts : CB) (el : CE) (ρ0 : List Sl) : List T → Store → Res (List T)
  | [], S => .ok [] S
  | t :: r, S => match ft t ρ0 with
    | none => .stuck
    | some ρ1 => match ts S ρ1 with
      | .ok b S1 => if b = true then match el S1 ρ1 with
          | .ok x S2 => match x.kept with
            | some y => (compL ft ts el ρ0 r S2).bind fun ys S3 => .ok (y :: ys) S3
            | none => .stuck
          | _ => .stuck
        else compL ft ts el ρ0 r S1
      | _ => .stuck
def cLc (fi : CI) (vs : List Nat) (ft : Tgt) (ts : CB) (el : CE) : CE := fun S ρ => (fi S ρ).bind fun bt S1 => if bt.2.length ≤ sizeLine then (compL ft ts el (wipeS ρ vs) bt.2 S1).bind fun ys S2 => .ok ⟨.fresh, .lst ys⟩ S2 else .stuck
def cYes : CB := fun S _ => .ok true S
def EBs (X : Cx) (p : Par) (ifs : List Expr) (f : CB) : Prop := PTs X ifs (tOfB p f)
theorem PTs.imp {ifs : List Expr} {t u : TT} (h : PTs X ifs t) (k : ∀ σ H Q, u σ H Q → t σ H Q) : PTs X ifs u := ⟨fun pins s σ H Q I q => h.run pins s σ H Q I (k _ _ _ q)⟩
theorem bs_nil : EBs X p [] cYes := by
  refine PTs.imp pts_nil fun σ H Q h => ?_
  obtain ⟨c, F, μ, S, ρ, C, q⟩ := h
  exact q true F μ H C (Ext.refl _ _ _) rfl
theorem bs_one {g : CB} (h : EB' X p a g) : EBs X p [a] g := pts_one h
def Par.no (p : Par) : Par := ⟨p.g, fun _ _ _ _ => False⟩
theorem Cfg.updD {g c F1 μ1 S1 H1 F μ S ρ σ H D o} (C1 : Cfg g c F1 μ1 S1 ρ σ H1) (hD : H1 D = none) (C : Cfg g c F μ S ρ σ H) (x : Ext F1 μ1 H1 F μ H) (fD : F D = none) (mD : D ∉ μ) :
    Cfg g c F μ S ρ σ (upd H D o) ∧ Ext F1 μ1 H1 F μ (upd H D o) := by
  have cD : c.H D = none := C1.ext.nil0 C1.st hD
  refine ⟨⟨fun a u e => ?_, ⟨C.st.len, C.st.nd, fun n a e => ?_⟩, ⟨C.ext.fr, C.ext.new, C.ext.pre, C.ext.obn, fun a u e => ?_⟩, C.sub0, C.st0, C.len, fun i s v e1 e2 => ?_, C.ap⟩, ⟨x.fr, x.new, x.pre, x.obn, fun a u e => ?_⟩⟩
  · rw [upd_ne (fun z => by rw [z, fD] at e; cases e)]; exact C.sub _ _ e
  · obtain ⟨ob, dx, vs, e1, e2, e3, e4⟩ := C.st.at_ n a e
    exact ⟨ob, dx, vs, e1, by rw [upd_ne (fun z => mD (by rw [← z]; exact List.mem_of_getElem? e))]; exact e2, e3, e4⟩
  · refine (C.ext.kp a u e).imp id fun h => ?_
    rw [upd_ne (fun z => by rw [z, cD] at e; cases e)]; exact h
  · have q := C.sl i s v e1 e2
    have q1 := C1.sl i s v e1 e2
    cases s with
    | no => trivial
    | val t => exact q
    | own t =>
      obtain ⟨a, e, b, f, h0⟩ := q
      obtain ⟨a', e', b', _⟩ := q1
      rw [e] at e'; cases e'
      obtain ⟨u, hu⟩ := b'.has
      have ne : a ≠ D := fun z => by rw [z, hD] at hu; cases hu
      exact ⟨a, e, b.mono' (Sub.refl _) (Pre.refl _) fun o h => by rw [upd_ne ne]; exact h, f, h0⟩
    | bor t =>
      obtain ⟨a, e, b, k⟩ := q
      obtain ⟨a', e', b', _⟩ := q1
      rw [e] at e'; cases e'
      obtain ⟨u, hu⟩ := b'.has
      have ne : a ≠ D := fun z => by rw [z, hD] at hu; cases hu
      exact ⟨a, e, b.mono' (Sub.refl _) (Pre.refl _) fun o h => by rw [upd_ne ne]; exact h, by rw [upd_ne ne]; exact k⟩
    | exc x => exact q
  · refine (x.kp a u e).imp id fun h => ?_
    rw [upd_ne (fun z => by rw [z, hD] at e; cases e)]; exact h
theorem lc_of {own : List (Str × Nat)} {fi : CI} {ft : Tgt} {ts : CB} {el : CE} {σ : L2.St} {H : Hp} {Q : VK} (h : tOf p (cLc fi (own.map (·.2)) ft ts el) σ H Q) : tLc (tOfI p fi) (tOfG p.no (own.map (·.2)) ft) (tOfB p.no ts) (tOf p.no el) (own.map (·.2)) σ H Q := by
  obtain ⟨c, F, μ, S, ρ, C, q⟩ := h
  refine ⟨c, F, μ, S, ρ, C, ?_⟩
  unfold cLc at q
  cases e : fi S ρ with
  | err x S1 => rw [e] at q; exact q
  | stuck => rw [e] at q; exact q
  | ok bt S1 =>
    rw [e] at q
    obtain ⟨b, its⟩ := bt
    intro J F1 μ1 H1 C1 x1 it D hD
    have q : PostG p (RelR p.g) c σ ρ F μ H (if its.length ≤ sizeLine then (compL ft ts el (wipeS ρ (own.map (·.2))) its S1).bind fun ys S2 => .ok ⟨.fresh, .lst ys⟩ S2 else .stuck) Q := q
    split at q
    · rename_i hlen
      obtain ⟨G, Y, w, _, g2, yl⟩ := it.ex
      obtain ⟨C0, x0⟩ := C1.laid (a := D) (o := .lst []) hD
      have fD1 : F1 D = none := C1.free hD
      refine lc_it w (fun i H' => ∃ F' μ' S' acc accT, Cfg p.g c F' μ' S' ρ σ H' ∧ Ext F1 μ1 H1 F' μ' H' ∧ H' D = some (.lst acc) ∧ F' D = none ∧ FzL p.g F' μ' accT acc ∧ accT.length ≤ i ∧
        PostG p (RelR p.g) c σ ρ F μ H ((compL ft ts el (wipeS ρ (own.map (·.2))) (its.drop i) S').bind fun ys S2 => .ok ⟨.fresh, .lst (accT ++ ys)⟩ S2) Q)
        ⟨F1, μ1, S1, [], [], C0, x0, upd_same, fD1, rfl, Nat.le_refl _, q⟩ (fun i H' _ ⟨F', μ', S', acc, accT, C', x', _⟩ => g2 F' μ' H' x' C'.sub) ?_ ?_
      · rintro i x H2 H3 hi' ⟨F', μ', S', acc, accT, C', x', hacc, fD, fz, hle, q'⟩ y
        obtain ⟨t, et, z⟩ := yl i H2 x H3 hi' y
        have ed : its.drop i = t :: its.drop (i + 1) := by
          rw [List.drop_eq_getElem_cons hi']
          have := List.getElem?_eq_getElem hi'
          rw [et] at this
          cases this; rfl
        rw [ed] at q'
        have fin : ∀ F3 H3', Cfg p.g c F3 μ' S' ρ σ H3' → Ext F1 μ1 H1 F3 μ' H3' → Sub F' F3 → H3' D = some (.lst acc) → F3 D = none → Fz p.g F3 μ' t x → tOfG p.no (own.map (·.2)) ft x (L2.wipe σ (own.map (·.2))) H3' fun σ2 H2 => L2.wipe σ2 (own.map (·.2)) = L2.wipe σ (own.map (·.2)) ∧ tOfB p.no ts σ2 H2 fun b H3 =>
            if b = true then tOf p.no el σ2 H3 fun y H4 => ∃ acc, H4 D = some (.lst acc) ∧ acc.length < sizeLine ∧ (∃ F' μ' S' acc_1 accT, Cfg p.g c F' μ' S' ρ σ (upd H4 D (.lst (acc ++ [y]))) ∧ Ext F1 μ1 H1 F' μ' (upd H4 D (.lst (acc ++ [y]))) ∧ (upd H4 D (.lst (acc ++ [y]))) D = some (.lst acc_1) ∧ F' D = none ∧ FzL p.g F' μ' accT acc_1 ∧ accT.length ≤ i + 1 ∧
                PostG p (RelR p.g) c σ ρ F μ H ((compL ft ts el (wipeS ρ (own.map (·.2))) (its.drop (i + 1)) S').bind fun ys S2 => .ok ⟨.fresh, .lst (accT ++ ys)⟩ S2) Q)
            else ∃ F' μ' S' acc accT, Cfg p.g c F' μ' S' ρ σ H3 ∧ Ext F1 μ1 H1 F' μ' H3 ∧ H3 D = some (.lst acc) ∧ F' D = none ∧ FzL p.g F' μ' accT acc ∧ accT.length ≤ i + 1 ∧
                PostG p (RelR p.g) c σ ρ F μ H ((compL ft ts el (wipeS ρ (own.map (·.2))) (its.drop (i + 1)) S').bind fun ys S2 => .ok ⟨.fresh, .lst (accT ++ ys)⟩ S2) Q := by
          intro F3 H3' C3 x3 sF hacc3 fD3 z
          refine ⟨c, F3, μ', S', _, t, C3.wipe _, z, ?_⟩
          unfold compL at q'
          cases ef : ft t (wipeS ρ (own.map (·.2))) with
          | none => rw [ef] at q'; exact q'.elim
          | some ρ1 =>
            rw [ef] at q'
            intro σ2 C4 w4
            rw [wipe_idem] at w4
            refine ⟨w4, c, F3, μ', S', ρ1, C4, ?_⟩
            dsimp only at q'
            cases eb : ts S' ρ1 with
            | err y S5 => rw [eb] at q'; exact q'.elim
            | stuck => rw [eb] at q'; exact q'.elim
            | ok bb S5 =>
              rw [eb] at q'
              rintro b5 F5 μ5 H5 C5 x5 rfl
              have Co : Cfg p.g c F5 μ5 S5 ρ σ H5 := C3.after C5.sub C5.st x5
              have xx : Ext F1 μ1 H1 F5 μ5 H5 := x3.trans C3.st x5
              have mD3 : D ∉ μ' := fun m => by obtain ⟨_, _, _, z, _⟩ := C3.st.ins m; rw [hacc3] at z; cases z
              have hacc5 : H5 D = some (.lst acc) := (x5.kp _ _ hacc3).resolve_left mD3
              have fD5 : F5 D = none := by
                cases w : F5 D with
                | none => rfl
                | some o =>
                  rcases x5.new D o w with h | h
                  · rw [fD3] at h; cases h
                  · rw [hacc3] at h; cases h
              have fz5 : FzL p.g F5 μ5 accT acc := FzL.mono (sF.trans x5.fr) x5.pre fz
              cases bb with
              | false => exact ⟨F5, μ5, S5, acc, accT, Co, xx, hacc5, fD5, fz5, by omega, q'⟩
              | true =>
                simp only [if_true] at q' ⊢
                refine ⟨c, F5, μ5, S5, ρ1, C5, ?_⟩
                cases ee : el S5 ρ1 with
                | err y S6 => rw [ee] at q'; exact q'.elim
                | stuck => rw [ee] at q'; exact q'.elim
                | ok r S6 =>
                  rw [ee] at q'
                  intro v F6 μ6 H6 C6 x6 r6
                  have mD5 : D ∉ μ5 := fun m => by obtain ⟨_, _, _, z, _⟩ := C5.st.ins m; rw [hacc5] at z; cases z
                  have hacc6 : H6 D = some (.lst acc) := (x6.kp _ _ hacc5).resolve_left mD5
                  have mD6 : D ∉ μ6 := fun m => by obtain ⟨_, _, _, z, _⟩ := C6.st.ins m; rw [hacc6] at z; cases z
                  have fD6 : F6 D = none := by
                    cases w : F6 D with
                    | none => rfl
                    | some o =>
                      rcases x6.new D o w with h | h
                      · rw [fD5] at h; cases h
                      · rw [hacc5] at h; cases h
                  dsimp only at q'
                  cases ek : r.kept with
                  | none => rw [ek] at q'; exact q'.elim
                  | some y =>
                    rw [ek] at q'
                    have Co6 : Cfg p.g c F6 μ6 S6 ρ σ H6 := Co.after C6.sub C6.st x6
                    obtain ⟨F7, C7, x7, s7, z7⟩ := Cfg.keep Co Co6 x6 r6 ek
                    have fD7 : F7 D = none := by
                      cases w : F7 D with
                      | none => rfl
                      | some o =>
                        rcases x7.new D o w with h | h
                        · rw [fD5] at h; cases h
                        · rw [hacc5] at h; cases h
                    obtain ⟨C8, x8⟩ := Cfg.updD (o := .lst (acc ++ [v])) C1 hD C7 (xx.trans Co.st x7) fD7 mD6
                    have fz7 : FzL p.g F7 μ6 (accT ++ [y]) (acc ++ [v]) := (FzL.mono (x6.fr.trans s7) x6.pre fz5).append ⟨v, [], rfl, z7, rfl⟩
                    refine ⟨acc, hacc6, ?_, F7, μ6, S6, acc ++ [v], accT ++ [y], C8, x8, upd_same, fD7, fz7, by rw [List.length_append]; exact Nat.succ_le_succ hle, ?_⟩
                    · rw [← fz5.length]; omega
                    · cases el2 : compL ft ts el (wipeS ρ (own.map (·.2))) (its.drop (i + 1)) S6 with
                      | ok ys S9 =>
                        rw [el2] at q'
                        have q' : PostG p (RelR p.g) c σ ρ F μ H (.ok ⟨.fresh, .lst (accT ++ y :: ys)⟩ S9) Q := q'
                        show PostG p (RelR p.g) c σ ρ F μ H (.ok ⟨.fresh, .lst ((accT ++ [y]) ++ ys)⟩ S9) Q
                        rw [List.append_assoc]
                        exact q'
                      | err x S9 => rw [el2] at q'; exact q'
                      | stuck => rw [el2] at q'; exact q'
        have mD : D ∉ μ' := fun m => by obtain ⟨_, _, _, z, _⟩ := C'.st.ins m; rw [hacc] at z; cases z
        rcases z with ⟨rfl, z⟩ | ⟨y', o, hn, rfl, z⟩
        · exact fin F' H3 C' x' (Sub.refl _) hacc fD (Fz.mono x'.fr x'.pre z)
        · obtain ⟨C3, x3⟩ := C'.laidF (a := y') (o := o) hn
          have ne : D ≠ y' := fun z => by rw [← z, hacc] at hn; cases hn
          exact fin _ _ C3 (x'.trans C'.st x3) x3.fr (by rw [upd_ne ne]; exact hacc) (by rw [upd_ne ne]; exact fD) (z _ _ (x'.fr.trans x3.fr) x'.pre upd_same)
      · rintro H' ⟨F', μ', S', acc, accT, C', x', hacc, fD, fz, hle, q'⟩
        rw [List.drop_length] at q'
        have q' : PostG p (RelR p.g) c σ ρ F μ H (.ok ⟨.fresh, .lst (accT ++ [])⟩ S') Q := q'
        rw [List.append_nil] at q'
        exact q' _ F' μ' H' C' (x1.trans C1.st x') ⟨D, rfl, ⟨acc, hacc, fz⟩, fD, x1.nil0 C1.st hD⟩
    · exact q.elim
theorem e_lc {elt iter : Expr} {ifs : List Expr} {scope : Scope} {own : List (Str × Nat)} {fi : CI} {ft : Tgt} {ts : CB} {el : CE} (hc : X.calm = true) (hN : X.N.Nodup) (hi : EI X p tg iter fi) (ok : BlkOk X.N X.env.scope scope own)
    (hg : ∀ (s : Shared) (H : Hp) (C : Addr) (cl : List (Str × Addr)) (fp : List Addr), EG (X.blk s H scope (compEnvC scope cl C X.env) fp) p.no tg (own.map (·.2)) ft) (ht : ∀ (s : Shared) (H : Hp) (C : Addr) (cl : List (Str × Addr)) (fp : List Addr), EBs (X.blk s H scope (compEnvC scope cl C X.env) fp) p.no ifs ts)
    (he : ∀ (s : Shared) (H : Hp) (C : Addr) (cl : List (Str × Addr)) (fp : List Addr), EE (X.blk s H scope (compEnvC scope cl C X.env) fp) p.no elt el) (hs : ∀ x, foldedSetIterable iter X.env x = pure x := by intro _; rfl) :
    EE X p (.ListComp elt [⟨tg, iter, ifs, 0⟩] scope pos) (cLc fi (own.map (·.2)) ft ts el) :=
  PE.imp (pe_lc hc hN hi ok hg ht he hs) fun _ _ _ h => lc_of h
theorem s_setLc {i : Nat} {y : Str} {py spos : Pos} {elt iter : Expr} {ifs : List Expr} {scope : Scope} {own : List (Str × Nat)} {fi : CI} {ft : Tgt} {ts : CB} {el : CE} (hc : X.calm = true) (hN : X.N.Nodup) (hy : X.N[i]? = some y) (hyl : X.env.scope.names.lookup y = some .local)
    (hsw : swapsWith (.ListComp elt [⟨tg, iter, ifs, 0⟩] scope pos) (some (.Name y py)) spos.line X.env = pure true) (hi : EI X p tg iter fi) (ok : BlkOk X.N X.env.scope scope own)
    (hg : ∀ (s : Shared) (H : Hp) (C : Addr) (cl : List (Str × Addr)) (fp : List Addr), EG (X.blk s H scope (compEnvC scope cl C X.env) fp) p.no tg (own.map (·.2)) ft) (ht : ∀ (s : Shared) (H : Hp) (C : Addr) (cl : List (Str × Addr)) (fp : List Addr), EBs (X.blk s H scope (compEnvC scope cl C X.env) fp) p.no ifs ts)
    (he : ∀ (s : Shared) (H : Hp) (C : Addr) (cl : List (Str × Addr)) (fp : List Addr), EE (X.blk s H scope (compEnvC scope cl C X.env) fp) p.no elt el) (hs : ∀ x, foldedSetIterable iter X.env x = pure x := by intro _; rfl) :
    SS X p (.Assign [.Name y py] (.ListComp elt [⟨tg, iter, ifs, 0⟩] scope pos) spos) (sSet i (cLc fi (own.map (·.2)) ft ts el)) :=
  PS.imp (ps_setLc hc hN hy hyl hsw hi ok hg ht he hs) fun D σ H hh => by
    obtain ⟨c, F, μ, S, ρ, C, q⟩ := hh
    refine lc_of (Q := fun v H1 => D.nx (σ.set i (some v)) H1) (tG.onR C q fun r S1 v F1 μ1 H1 C1 x1 r1 q1 => ?_)
    unfold setK at q1
    split at q1
    · rename_i s e
      exact q1 F1 μ1 _ H1 (Cfg.set C C1 r1 e)
    · exact q1.elim
end
end EV

namespace EV
open PySem PySem.Spec PyProof.Rows L2 SlX

/-! ### an interval is made -/
def ivS (s e : Int) : Int := if s < e then s else 0
def ivE (s e : Int) : Int := if s < e then e else 0
def ivT (s e : Int) : T := .inst kInterval [.int (ivS s e), .int (ivE s e)]
def spIv (g : Gx) : Sp := fun vs H Q _ => vs.length = 3 ∧ ∃ (x dx : Addr) (s e : Int), vs = [.ref x, .int s, .int e] ∧ dx ≠ x ∧ H x = some (.ins (g.cs kInterval) dx []) ∧ Q .non (slH H x (g.cs kInterval) dx [some (.int (ivS s e)), some (.int (ivE s e))])
def mkIv (rs : List R) (S : Store) : Res R := match rs.map R.t with
  | [.int s, .int e] => .ok ⟨.frz, ivT s e⟩ S
  | _ => .stuck
def cIv (k : CA) : CE := fun S ρ => (k S ρ).bind mkIv
section
variable {X : Cx} {p : Par} {a b e tg : Expr} {es : List Expr} {fa fb : CE} {ta tb : TE} {k : CA} {pos : Pos}
theorem upd4 {H : Hp} {x dx : Addr} {o1 o2 o3 o4 : HO} (h : dx ≠ x) : upd (upd (upd (upd H dx o1) x o2) dx o3) x o4 = upd (upd H dx o3) x o4 := by
  funext b
  by_cases h1 : b = x
  · rw [h1, upd_same, upd_same]
  · by_cases h2 : b = dx
    · rw [h2, upd_ne h, upd_same, upd_ne h, upd_same]
    · simp only [upd_ne h1, upd_ne h2]
theorem e_mkIv {kk : Nat} {f : Addr} {fd : FuncData} {ps : List Str} {p' : Pos} (hK : X.K = p.g.K) (M : Mk X.K (p.g.cs kInterval) f) (F : FnOk X.prog X.w X.K X.mg X.base (L2.CX X.prog X.w) kk f fd ps (spIv p.g)) (hr : Room (kk + 1) X.A) (hg : Gl X "Interval") (hm : X.mg "Interval" = some (.ref (p.g.cs kInterval))) (hb : Binds X.K fd ps [])
    (ha : EA X p (e :: es) k) (hdb : ((("Interval" : Str)) == ("__debug__" : Str)) = false := by decide) (he : starEach (e :: es) X.env = (false, eval e X.env) :: starEach es X.env := by rfl) (hpl : (backTo pos (starEach es X.env)).any (·.1) = false := by rfl) :
    EE X p (.Call (.Name "Interval" p') (e :: es) [] pos) (cIv k) := by
  refine PE.imp (pe_make (E := fun _ _ _ => False) M F hr hg hm hb .nil (fun pins σ H s e s' I h => ?_) ha hdb he hpl) fun σ H Q h => ?_
  · obtain ⟨_, _, _, _, _, _, _, _, _, _, _, _, z⟩ := h
    exact z.elim
  · obtain ⟨c, F, μ, S, ρ, C, q⟩ := h
    refine tG.bind (rsR _) C q fun xs S1 vs F1 μ1 H1 C1 x1 r1 q1 _ => ?_
    unfold mkIv at q1
    split at q1
    · rename_i s e et
      obtain ⟨x, y, v, w, rfl, rfl, h1, h2, h3, h4⟩ := relRs2 r1 et
      have e1 := h3.int h1
      have e2 := h4.int h2
      subst e1; subst e2
      intro z dx nz ndx ne
      refine ⟨rfl, z, dx, s, e, rfl, ne, upd_same, rfl, ?_⟩
      unfold slH
      rw [upd4 ne]
      obtain ⟨C2, x2⟩ := C1.laidF (a := dx) (o := .xd []) ndx
      have nz2 : upd H1 dx (.xd []) z = none := by rw [upd_ne (Ne.symm ne)]; exact nz
      obtain ⟨C3, x3⟩ := C2.laidF (a := z) (o := SlO z (p.g.cs kInterval) dx [some (.int (ivS s e)), some (.int (ivE s e))]) nz2
      exact q1 _ _ _ _ C3 (x2.trans C2.st x3) ⟨z, dx, [.int (ivS s e), .int (ivE s e)], rfl, upd_same, by rw [upd_ne ne, upd_same], _, _, rfl, rfl, _, _, rfl, rfl, rfl⟩
    · exact q1.elim
end
/-- Interval.__init__ -/
theorem fn_iv {P : Program} {w : World} {g : Gx} {mg : Str → Option Value} {base : Heap} {qual : Str} {st : Stmt} {f : Addr} {fd : FuncData} {t : TS} (F : Fun g.K "__init__" qual st f fd) (Sc : FnScope ["self", "start", "stop"] ["self", "start", "stop"] (defScope st))
    (hbody : ∀ (cdv : Value) (A : Around) (outer : List Env) (s : Shared) (H : Hp) (E : XK), Room 0 (A.deeper (envOfC qual (defScope st) s.heap.objs.size f cdv)) → PSs (cxOf (L2.CX P w) P w g.K mg base ["self", "start", "stop"] qual (defScope st) f cdv A outer s H E) (defBody st) t)
    (ht : ∀ (H : Hp) (x dx : Addr) (s e : Int) (Q : VK), dx ≠ x → H x = some (.ins (g.cs kInterval) dx []) → Q .non (slH H x (g.cs kInterval) dx [some (.int (ivS s e)), some (.int (ivE s e))]) → t { nx := fun _ H' => Q .non H', rt := Q } [some (.ref x), some (.int s), some (.int e)] H) :
    FnOk P w g.K mg base (L2.CX P w) 1 f fd ["self", "start", "stop"] (spIv g) := by
  refine F.okX Sc (fun vs H Q E h => h.1) (fun cdv A outer s H vs Q E hr h => ?_)
  obtain ⟨_, x, dx, s', e', rfl, ne, hx, q⟩ := h
  exact ⟨t, hbody cdv A outer s H E hr, ht H x dx s' e' Q ne hx q⟩
theorem put2 (a b : V) : putS 1 b (putS 0 a []) = [some a, some b] := rfl
end EV

namespace EV
open PySem PySem.Spec PyProof.Rows L2 SlX

/-! ### defs by their names -/
structure DefF (g : Gx) (mg : Str → Option Value) (x : Str) (st : Stmt) (ps : List Str) : Prop where
  ex : ∃ f fd, L2.Fun g.K x x st f fd ∧ mg x = some (.ref f) ∧ PySem.W.keepIn g.K (.ref f) = true ∧ Binds g.K fd ps []
structure MthF (g : Gx) (c : Nat) (m qual : Str) (st : Stmt) (ps : List Str) : Prop where
  ex : ∃ f fd, L2.Fun g.K m qual st f fd ∧ PySem.W.findIn g.K (.ref (g.cs c)) m = some (some (.ref f)) ∧ PySem.W.isFn g.K (.ref f) = true ∧ PySem.W.keepIn g.K (.ref f) = true ∧ Binds g.K fd ps []
structure Has (P : Program) (w : World) (g : Gx) (mg : Str → Option Value) (base : Heap) (x : Str) (k n : Nat) (dv : List T) (mi : Mir) : Prop where
  ex : ∃ f fd ps ds dvs, FnOk P w g.K mg base (L2.CX P w) k f fd ps (spOf g n mi) ∧ mg x = some (.ref f) ∧ PySem.W.keepIn g.K (.ref f) = true ∧ Binds g.K fd ps ds ∧ Vals dvs ds ∧ Dv g dv dvs
structure HasIv (P : Program) (w : World) (g : Gx) (mg : Str → Option Value) (base : Heap) : Prop where
  ex : ∃ f fd ps, L2.Mk g.K (g.cs kInterval) f ∧ FnOk P w g.K mg base (L2.CX P w) 1 f fd ps (spIv g) ∧ mg "Interval" = some (.ref (g.cs kInterval)) ∧ Binds g.K fd ps []
section
variable {P : Program} {w : World} {g : Gx} {mg : Str → Option Value} {base : Heap}
theorem has_of {x : Str} {st : Stmt} {N ps : List Str} {k n : Nat} {b : CS} (D : DefF g mg x st ps) (Sc : FnScope N ps (defScope st)) (hn : ps.length = n)
    (hbody : ∀ (f : Addr) (cdv : Value) (A : Around) (outer : List Env) (s : Shared) (H : Hp) (E : XK), Room k (A.deeper (envOfC x (defScope st) s.heap.objs.size f cdv)) →
      SB (cxOf (L2.CX P w) P w g.K mg base N x (defScope st) f cdv A outer s H E) ⟨g, fun cls d _ H => E cls d H⟩ (defBody st) b) : Has P w g mg base x (k + 1) n [] (bodyM N.length b) := by
  obtain ⟨f, fd, F, hm, kp, hb⟩ := D.ex
  exact ⟨f, fd, ps, [], [], fn_ok F Sc hn (hbody f), hm, kp, hb, .nil, fun _ _ => rfl⟩
theorem hasM_of {c : Nat} {m qual : Str} {st : Stmt} {N ps : List Str} {k n : Nat} {b : CS} (D : MthF g c m qual st ps) (Sc : FnScope N ps (defScope st)) (hn : ps.length = n)
    (hbody : ∀ (f : Addr) (cdv : Value) (A : Around) (outer : List Env) (s : Shared) (H : Hp) (E : XK), Room k (A.deeper (envOfC qual (defScope st) s.heap.objs.size f cdv)) →
      SB (cxOf (L2.CX P w) P w g.K mg base N qual (defScope st) f cdv A outer s H E) ⟨g, fun cls d _ H => E cls d H⟩ (defBody st) b) : HasM P w g mg base c m (k + 1) n (bodyM N.length b) := by
  obtain ⟨f, fd, F, hm, hf, kp, hb⟩ := D.ex
  exact ⟨f, hm, hf, kp, ((fn_ok F Sc hn (hbody f)).raw hb .nil).imp fun vs H Q E h => by rw [List.append_nil]; exact h⟩
end
section
variable {X : Cx} {p : Par} {a b e tg : Expr} {es : List Expr} {fa fb : CE} {ta tb : TE} {k : CA} {pos : Pos}
theorem e_callH {n kk : Nat} {m : Mir} {x : Str} {p' : Pos} {dv : List T} (hK : X.K = p.g.K) (h : Has X.prog X.w p.g X.mg X.base x kk n dv m) (hr : Room kk X.A) (tk : Takes X p.W) (hg : Gl X x)
    {na : Nat} (ha : EA X p (e :: es) k) (ag : Ags na k) (hl : na + dv.length = n) (hdb : (x == ("__debug__" : Str)) = false := by decide)
    (he : starEach (e :: es) X.env = (false, eval e X.env) :: starEach es X.env := by rfl) (hpl : (backTo pos (starEach es X.env)).any (·.1) = false := by rfl) : EE X p (.Call (.Name x p') (e :: es) [] pos) (cCall m dv k) := by
  obtain ⟨f, fd, ps, ds, dvs, F, hm, kp, hb, hd, hv⟩ := h.ex
  rw [← hK] at F kp hb
  exact e_call F hr tk hg hm kp hb hd hv ha ag (by rw [← (hv (fun _ => none) []).length]; exact hl) hdb he hpl
theorem e_mkIvH {p' : Pos} (hK : X.K = p.g.K) (h : HasIv X.prog X.w p.g X.mg X.base) (hr : Room 2 X.A) (hg : Gl X "Interval")
    (ha : EA X p (e :: es) k) (hdb : ((("Interval" : Str)) == ("__debug__" : Str)) = false := by decide) (he : starEach (e :: es) X.env = (false, eval e X.env) :: starEach es X.env := by rfl) (hpl : (backTo pos (starEach es X.env)).any (·.1) = false := by rfl) :
    EE X p (.Call (.Name "Interval" p') (e :: es) [] pos) (cIv k) := by
  obtain ⟨f, fd, ps, M, F, hm, hb⟩ := h.ex
  rw [← hK] at F M hb
  exact e_mkIv hK M F hr hg hm hb ha hdb he hpl
/-- the value of a name, handed on: a list of one's own goes with it -/
def sRetV (i : Nat) : CS := fun S ρ => match ρ[i]? with
  | some (.val t) => .rt ⟨.frz, t⟩ S
  | some (.own t) => .rt ⟨.fresh, t⟩ S
  | _ => .stuck
theorem s_retV {i : Nat} {x : Str} {pos' : Pos} (h : PE X (.Name x pos') (tVar i)) : SS X p (.Return (some (.Name x pos')) pos) (sRetV i) := by
  refine PS.imp (ps_ret h) fun D σ H hh => ?_
  obtain ⟨c, F, μ, S, ρ, C, q⟩ := hh
  unfold sRetV at q
  cases e : ρ[i]? with
  | none => rw [e] at q; exact q.elim
  | some s =>
    rw [e] at q
    have hi : i < σ.length := by rw [← C.len]; exact (List.getElem?_eq_some_iff.mp e).1
    have hs : σ[i]? = some σ[i] := List.getElem?_eq_getElem hi
    have r := C.sl i s _ e hs
    cases s with
    | no => exact q.elim
    | val t => obtain ⟨v, e2, z⟩ := r; exact ⟨v, by rw [hs, e2], q v F μ H C.sub C.st C.ext z⟩
    | own t => obtain ⟨y, e2, z, f, h0⟩ := r; exact ⟨_, by rw [hs, e2], q _ F μ H C.sub C.st C.ext ⟨y, rfl, z, f, h0⟩⟩
    | bor t => exact q.elim
    | exc x => exact q.elim
end
section
variable {X : Cx} {p : Par} {a b : Expr} {fa fb : CE} {pos : Pos} {c : Nat} {m : Str} {kk : Nat} {mi : Mir}
theorem e_binOwn {op : Operator} (hK : X.K = p.g.K) (oc : OwnC p.g c) (h : HasM X.prog X.w p.g X.mg X.base c m kk 2 mi) (hr : Room kk X.A) (tk : Takes X p.W) (ha : EE X p a fa) (hb : EE X p b fb) (hd : PySem.dunder op.info.2 = m := by decide +kernel) : EE X p (.BinOp a op b pos) (cOpA (oOwn c mi) fa fb) := by
  subst hd
  exact e_opA (opA_bin hK oc h hr tk) opas_own ha hb
theorem e_cmpOwn {op : CmpOp} (hK : X.K = p.g.K) (oc : OwnC p.g c) (h : HasM X.prog X.w p.g X.mg X.base c m kk 2 mi) (hr : Room kk X.A) (tk : Takes X p.W) (ha : EE X p a fa) (hb : EE X p b fb) (hop : ∀ a b, compareOp op a b = richCompare op a b := by intro _ _; rfl) (hd : (cmpInfo op).2.1 = m := by decide +kernel) (hm : behindInMarks op b = false := by first | exact nomark _ | with_unfolding_all rfl) : EE X p (.Compare a [op] [b] pos) (cOpA (oOwn c mi) fa fb) := by
  subst hd
  exact e_cmpA (opA_cmp hK oc hop h hr tk) opas_own ha hb hm
theorem b_cmpOwn {op : CmpOp} (hK : X.K = p.g.K) (oc : OwnC p.g c) (h : HasM X.prog X.w p.g X.mg X.base c m kk 2 mi) (hr : Room kk X.A) (tk : Takes X p.W) (ha : EE X p a fa) (hb : EE X p b fb) (hop : ∀ a b, compareOp op a b = richCompare op a b := by intro _ _; rfl) (hd : (cmpInfo op).2.1 = m := by decide +kernel) (hm : behindInMarks op b = false := by first | exact nomark _ | with_unfolding_all rfl) : EB' X p (.Compare a [op] [b] pos) (cAsB (cOpA (oOwn c mi) fa fb)) := by
  subst hd
  exact b_cmpA (opA_cmp hK oc hop h hr tk) opas_own ha hb hm
theorem e_inOwn (hK : X.K = p.g.K) (h : HasM X.prog X.w p.g X.mg X.base c "__contains__" kk 2 mi) (hr : Room kk X.A) (tk : Takes X p.W) (ha : EE X p a fa) (hb : EE X p b fb) (hm : behindInMarks .In b = false := by with_unfolding_all rfl) : EE X p (.Compare a [.In] [b] pos) (cOpA (oInOwn c mi) fa fb) := e_cmpA (opA_in hK h hr tk) opas_in ha hb hm
theorem b_inOwn (hK : X.K = p.g.K) (h : HasM X.prog X.w p.g X.mg X.base c "__contains__" kk 2 mi) (hr : Room kk X.A) (tk : Takes X p.W) (ha : EE X p a fa) (hb : EE X p b fb) (hm : behindInMarks .In b = false := by with_unfolding_all rfl) : EB' X p (.Compare a [.In] [b] pos) (cAsB (cOpA (oInOwn c mi) fa fb)) := b_cmpA (opA_in hK h hr tk) opas_in ha hb hm
end
section
variable {g : Gx}
theorem ops_lt : OpS g (rI0 fun i j => .bl (decide (i < j))) oLt := ops_rI0 fun _ _ _ _ => rfl
theorem ops_le : OpS g (rI0 fun i j => .bl (decide (i ≤ j))) oLe := ops_rI0 fun _ _ _ _ => rfl
theorem ops_gt : OpS g (rI0 fun i j => .bl (decide (j < i))) oGt := ops_rI0 fun _ _ _ _ => rfl
theorem ops_ge : OpS g (rI0 fun i j => .bl (decide (j ≤ i))) oGe := ops_rI0 fun _ _ _ _ => rfl
theorem ops_sub : OpS g (rI0 fun i j => .int (i - j)) oSub := ops_rI0 fun _ _ _ _ => rfl
theorem ops_fd : OpS g (rI CDivN fun i j => .int (i.fdiv j)) oFd := ops_rIc (fun i j h => by rw [Bool.and_eq_true] at h; exact ⟨of_decide_eq_true h.1, of_decide_eq_true h.2⟩) fun _ _ _ _ => rfl
theorem ops_mod : OpS g (rI (fun _ j => j ≠ 0) fun i j => .int (i.fmod j)) oMod := ops_rIc (fun i j h => of_decide_eq_true h) fun _ _ _ _ => rfl
theorem ops_pow : OpS g (rI CPow fun i j => .int (i ^ j.toNat)) oPow := ops_rIc (fun i j h => by simp only [Bool.and_eq_true, decide_eq_true_eq] at h; exact ⟨h.1.1, h.1.2, h.2⟩) fun _ _ _ _ => rfl
theorem ops_mul : OpS g (rI CMul fun i j => .int (i * j)) oMul := ops_rIc (fun i j h => by simp only [Bool.and_eq_true, Bool.or_eq_true, decide_eq_true_eq] at h; exact h) fun _ _ _ _ => rfl
def isNonT : T → Bool
  | .non => true
  | _ => false
def oIsN : Bop := fun x y => match y with
  | .non => some ⟨.frz, .bl (isNonT x)⟩
  | _ => none
def oNotN : Bop := fun x y => match y with
  | .non => some ⟨.frz, .bl (!isNonT x)⟩
  | _ => none
theorem fz_non {F μ t v} (h : Fz g F μ t v) : decide (v = .non) = isNonT t := by
  cases t with
  | non => cases h; rfl
  | bl b => cases h; rfl
  | int b => cases h; rfl
  | str b => cases h; rfl
  | tup ts => obtain ⟨a, vs, rfl, _⟩ := h; rfl
  | lst ts => obtain ⟨a, vs, rfl, _⟩ := h; rfl
  | dic ts => obtain ⟨a, vs, rfl, _⟩ := h; rfl
  | dit ts => obtain ⟨a, vs, rfl, _⟩ := h; rfl
  | inst c ts => obtain ⟨a, dx, vs, rfl, _⟩ := h; rfl
  | rcd c ts => obtain ⟨a, dx, vs, rfl, _⟩ := h; rfl
  | scr ns => obtain ⟨a, rfl, _⟩ := h; rfl
  | obj n => obtain ⟨a, rfl, _⟩ := h; rfl
theorem rel_non {Hs F μ H} {r : R} {v} (h : RelR g Hs F μ H r v) : decide (v = .non) = isNonT r.t := by
  obtain ⟨k, t⟩ := r
  cases k with
  | frz => exact fz_non h
  | fresh => obtain ⟨a, rfl, b, _⟩ := h; cases t <;> first | exact b.elim | rfl
  | place => obtain ⟨a, rfl, b⟩ := h; cases t <;> first | exact b.elim | rfl
theorem ops_isN : OpS g (fun x y H Q => y = .non ∧ Q (.bl (decide (x = .non))) H) oIsN := by
  intro c0 F1 μ1 S1 H1 F μ S ρ σ H x y z v w Q C1 C2 xx r1 r2 e k
  unfold oIsN at e
  split at e
  · rename_i ey
    cases e
    exact ⟨r2.non ey, by rw [rel_non r1]; exact k _ F μ H C2 (Ext.refl _ _ _) rfl⟩
  · cases e
theorem ops_notN : OpS g (fun x y H Q => y = .non ∧ Q (.bl (!decide (x = .non))) H) oNotN := by
  intro c0 F1 μ1 S1 H1 F μ S ρ σ H x y z v w Q C1 C2 xx r1 r2 e k
  unfold oNotN at e
  split at e
  · rename_i ey
    have e := Option.some.inj e
    refine ⟨r2.non ey, ?_⟩
    rw [rel_non r1]
    refine k _ F μ H C2 (Ext.refl _ _ _) ?_
    rw [← e]
    rfl
  · cases e
def oBool : Bcl := fun
  | [.int i] => some ⟨.frz, .bl (i != 0)⟩
  | [.bl b] => some ⟨.frz, .bl b⟩
  | _ => none
theorem cals_bool : CalS g (fun xs H Q => (∃ i, xs = [.int i] ∧ Q (.bl (i != 0)) H) ∨ ∃ k, xs = [.bl k] ∧ Q (.bl k) H) oBool := by
  intro c F1 μ1 S1 H1 F μ S ρ σ H xs z vs Q C1 C xx r e k
  unfold oBool at e
  split at e
  · rename_i s h
    obtain ⟨x, v, rfl, rfl, h1, h2⟩ := relRs1 r h
    cases e
    exact .inl ⟨_, by rw [h2.int h1], k _ F μ H C (Ext.refl _ _ _) rfl⟩
  · rename_i s h
    obtain ⟨x, v, rfl, rfl, h1, h2⟩ := relRs1 r h
    cases e
    exact .inr ⟨_, by rw [h2.bl h1], k _ F μ H C (Ext.refl _ _ _) rfl⟩
  · cases e
end
/-! ### from what the top has written -/
section
variable {K : PySem.W.Frag} {h : Heap} {mg : Str → Option Value} {cs : Nat → Addr}
theorem defF_mk {x : Str} {st : Stmt} {ps : List Str} {f : Addr} {oc : Value} {od an : Option Addr} {osl : Array (Option Value)} {kV doc pm cdv ct : Value} (X : K.In h) (G : h.Ns mainGlobals mg) (a : PySem.W.nsIn K mainGlobals x = some (some (.ref f)))
    (l : K.lookup f = some ⟨oc, od, .func (PySem.W.fnOf x x (defArgs st) (defBody st) (defScope st) .none kV doc pm an cdv ct), osl⟩) (c : PySem.W.codeIn K cdv x = true) (k : PySem.W.keepIn K (.ref f) = true)
    (hb : ∀ (kV doc pm : Value) (an : Option Addr) (cdv ct : Value) (us : List Value), us.length = ps.length → bindArgs (PySem.W.fnOf x x (defArgs st) (defBody st) (defScope st) .none kV doc pm an cdv ct) ⟨us, []⟩ = pure (ps.zip us)) : DefF ⟨K, cs, none⟩ mg x st ps :=
  ⟨f, _, fun_mk l c k, PySem.W.mg_of X G a, k, .all (hb kV doc pm an cdv ct)⟩
theorem mthF_mk {c : Nat} {m qual : Str} {st : Stmt} {ps : List Str} {f : Addr} {oc : Value} {od an : Option Addr} {osl : Array (Option Value)} {kV doc pm cdv ct : Value} (a : PySem.W.findIn K (.ref (cs c)) m = some (some (.ref f))) (i : PySem.W.isFn K (.ref f) = true)
    (l : K.lookup f = some ⟨oc, od, .func (PySem.W.fnOf m qual (defArgs st) (defBody st) (defScope st) .none kV doc pm an cdv ct), osl⟩) (cc : PySem.W.codeIn K cdv qual = true) (k : PySem.W.keepIn K (.ref f) = true)
    (hb : ∀ (kV doc pm : Value) (an : Option Addr) (cdv ct : Value) (us : List Value), us.length = ps.length → bindArgs (PySem.W.fnOf m qual (defArgs st) (defBody st) (defScope st) .none kV doc pm an cdv ct) ⟨us, []⟩ = pure (ps.zip us)) : MthF ⟨K, cs, none⟩ c m qual st ps :=
  ⟨f, _, fun_mk l cc k, a, i, k, .all (hb kV doc pm an cdv ct)⟩
end
/-- the law's own call -/
def spLw (K : PySem.W.Frag) : Sp := fun vs H Q _ => ∃ (a : Addr) (ns : List Int), vs = [.ref a] ∧ SqL K H a (ns.map V.int) ∧ ns.length ≤ 63 ∧ ∀ H', Q (.bl true) H'
theorem law_imp {g : Gx} {m : Mir} (hm : ∀ ns : List Int, ns.length ≤ 63 → ∃ S, m [] [⟨.frz, .scr ns⟩] = .ok ⟨.frz, .bl true⟩ S) : ∀ vs H Q E, spLw g.K vs H Q E → spOf g 1 m vs H Q E := by
  rintro vs H Q E ⟨a, ns, rfl, hs, hl, q⟩
  obtain ⟨S, e⟩ := hm ns hl
  refine ⟨rfl, fun b => if b = a then H b else none, [], [], [⟨.frz, .scr ns⟩], fun b o h => ?_, ⟨rfl, List.nodup_nil, fun n b h => by simp at h⟩, fun r hr => ?_, .cons ⟨a, rfl, ?_⟩ .nil, ?_⟩
  · dsimp only at h
    split at h
    · exact h
    · cases h
  · rcases List.mem_cons.mp hr with rfl | hr
    · exact fun z => nomatch z
    · cases hr
  · rcases hs with (hs | ⟨o, hs⟩) | hs
    · exact .inl (.inl (by dsimp only; rw [if_pos rfl]; exact hs))
    · exact .inl (.inr ⟨o, by dsimp only; rw [if_pos rfl]; exact hs⟩)
    · exact .inr hs
  · rw [e]
    intro v F' μ' H' _ _ _ r
    have r : v = .bl true := r
    rw [r]
    exact q H'
end EV

namespace EV
open PySem PySem.Spec PyProof.Rows L2

/-! ### raise: an own class without __init__ -/
def sRaise (c : Nat) : CS := fun S ρ => .err ⟨c, []⟩ S ρ
/-- an exception class of one's own -/
structure XCls (g : Gx) (mg : Str → Option Value) (x : Str) (n : Nat) : Prop where
  mgx : mg x = some (.ref (g.cs n))
  kp : PySem.W.keepIn g.K (.ref (g.cs n)) = true
  sub : PySem.W.subIn g.K (.ref (g.cs n)) (.type "BaseException") = some true
  ty : PySem.W.typeIn g.K (.ref (g.cs n)) = some (.type "type")
structure XMk (g : Gx) (mg : Str → Option Value) (x : Str) (n : Nat) : Prop extends XCls g mg x n where
  xin : PySem.W.excIn g.K (g.cs n) [.type "ValueError", .type "Exception", .type "BaseException", .type "object"] "ValueError.__new__" = true
section
variable {X : Cx} {p : Par} {a b e tg : Expr} {es : List Expr} {fa fb : CE} {ta tb : TE} {k : CA} {pos : Pos}
theorem s_raise {x m : Str} {n j : Nat} {p1 p2 p3 : Pos} (hK : X.K = p.g.K) (hc : X.calm = true) (tk : Takes X p.W) (xc : XMk p.g X.mg x n) (hg : Gl X x) (hdb : (x == ("__debug__" : Str)) = false := by decide) :
    SS X p (.Raise (some (.Call (.Name x p1) [.Constant (.str m) j p2] [] p3)) none pos) (sRaise n) := by
  refine PS.imp (ps_raise hc tk (pmk_own (C := p.g.cs n) PySem.F.excBase_ValueError (by rw [hK]; exact xc.xin) xc.mgx (by rw [hK]; exact xc.kp) (raises_own (by rw [hK]; exact xc.sub) (by rw [hK]; exact xc.ty)) hg hdb)) fun D σ H h => ?_
  obtain ⟨c, F, μ, S, ρ, C, q⟩ := h
  exact q _ _ F μ σ H C ⟨rfl, .inl ⟨rfl, rfl⟩⟩

/-! ### what does not lean on the caught exception -/
def Gx.at (g : Gx) (e : Option (Addr × Value × Option Addr)) : Gx := { g with ex := e }
mutual
theorem Fz.at {g : Gx} {F : Hp} {μ : List Addr} {e} : ∀ {t : T} {v : V}, Fz g F μ t v → Fz (g.at e) F μ t v
  | .non, v, h => h
  | .bl b, v, h => h
  | .int i, v, h => h
  | .str x, v, h => h
  | .tup ts, v, h => let ⟨a, vs, e, q, r⟩ := h; ⟨a, vs, e, q, FzL.at r⟩
  | .lst ts, v, h => let ⟨a, vs, e, q, r⟩ := h; ⟨a, vs, e, q, FzL.at r⟩
  | .scr ns, v, h => h
  | .dic ts, v, h => let ⟨a, vs, e, q, r⟩ := h; ⟨a, vs, e, q, FzK.at r⟩
  | .dit ts, v, h => let ⟨a, vs, e, q, r⟩ := h; ⟨a, vs, e, q, FzT.at r⟩
  | .inst c ts, v, h => let ⟨a, dx, vs, e, q, q2, r⟩ := h; ⟨a, dx, vs, e, q, q2, FzL.at r⟩
  | .rcd c ts, v, h => let ⟨a, dx, vs, e, q, q2, r⟩ := h; ⟨a, dx, vs, e, q, q2, FzF.at r⟩
  | .obj n, v, h => h
theorem FzL.at {g : Gx} {F : Hp} {μ : List Addr} {e} : ∀ {t : List T} {v : List V}, FzL g F μ t v → FzL (g.at e) F μ t v
  | [], v, h => h
  | t :: ts, v, h => let ⟨x, r, e, a, b⟩ := h; ⟨x, r, e, Fz.at a, FzL.at b⟩
theorem FzK.at {g : Gx} {F : Hp} {μ : List Addr} {e} : ∀ {t : List (Key × T)} {v : List (Key × V)}, FzK g F μ t v → FzK (g.at e) F μ t v
  | [], v, h => h
  | (k, t) :: ts, v, h => let ⟨x, r, e, a, b⟩ := h; ⟨x, r, e, Fz.at a, FzK.at b⟩
theorem FzT.at {g : Gx} {F : Hp} {μ : List Addr} {e} : ∀ {t : List (List Key × T)} {v : List (List Key × V)}, FzT g F μ t v → FzT (g.at e) F μ t v
  | [], v, h => h
  | (k, t) :: ts, v, h => let ⟨x, r, e, a, b⟩ := h; ⟨x, r, e, Fz.at a, FzT.at b⟩
theorem FzF.at {g : Gx} {F : Hp} {μ : List Addr} {e} : ∀ {t : List (Str × T)} {v : List (Str × V)}, FzF g F μ t v → FzF (g.at e) F μ t v
  | [], v, h => h
  | (k, t) :: ts, v, h => let ⟨x, r, e, a, b⟩ := h; ⟨x, r, e, Fz.at a, FzF.at b⟩
end
section
variable {g : Gx} {c : C0} {F : Hp} {μ : List Addr} {S : Store} {ρ : List Sl} {σ : L2.St} {H Hs : Hp} {t : T} {y : Addr} {w : Option (Addr × Value × Option Addr)}
theorem Box.at (h : Box g F μ H t y) : Box (g.at w) F μ H t y := by
  cases t <;> try exact h.elim
  · obtain ⟨vs, e, q⟩ := h; exact ⟨vs, e, q.at⟩
  · obtain ⟨vs, e, q⟩ := h; exact ⟨vs, e, q.at⟩
  · obtain ⟨vs, e, q⟩ := h; exact ⟨vs, e, q.at⟩
theorem RelS.at (h : RelS g F μ S H) : RelS (g.at w) F μ S H :=
  ⟨h.len, h.nd, fun n b e => by
    obtain ⟨ob, dx, vs, e1, e2, e3, e4⟩ := h.at_ n b e
    exact ⟨ob, dx, vs, e1, e2, e3, e4.at⟩⟩
theorem RelR.at {r : R} {v : V} (h : RelR g Hs F μ H r v) : RelR (g.at w) Hs F μ H r v := by
  obtain ⟨k, t⟩ := r
  cases k with
  | frz => exact Fz.at h
  | fresh => obtain ⟨a, e, b, f, hs⟩ := h; exact ⟨a, e, b.at, f, hs⟩
  | place => obtain ⟨a, e, b⟩ := h; exact ⟨a, e, b.at⟩
/-- no slot holds a caught exception -/
def noEx : List Sl → Bool
  | [] => true
  | .exc _ :: _ => false
  | _ :: r => noEx r
theorem noEx_get : ∀ {ρ : List Sl} {i : Nat} {x : Exc}, noEx ρ = true → ρ[i]? ≠ some (.exc x)
  | [], i, x, h => by simp
  | s :: r, 0, x, h => by
    intro e
    simp at e
    subst e
    cases h
  | s :: r, i + 1, x, h => by
    intro e
    have h' : noEx r = true := by cases s <;> first | exact h | cases h
    exact noEx_get h' (by simpa using e)
theorem Cfg.at (h : Cfg g c F μ S ρ σ H) (n : noEx ρ = true) : Cfg (g.at w) c F μ S ρ σ H :=
  ⟨h.sub, h.st.at, h.ext, h.sub0, h.st0, h.len, fun i s o e1 e2 => by
    have q := h.sl i s o e1 e2
    cases s with
    | no => trivial
    | val t => obtain ⟨v, e, z⟩ := q; exact ⟨v, e, z.at⟩
    | own t => obtain ⟨y, e, z, z2, z3⟩ := q; exact ⟨y, e, z.at, z2, z3⟩
    | bor t => obtain ⟨y, e, z, z2⟩ := q; exact ⟨y, e, z.at, z2⟩
    | exc x => exact absurd e1 (noEx_get n), h.ap⟩
theorem at_at (g : Gx) (u : Option (Addr × Value × Option Addr)) : (g.at w).at u = g.at u := rfl
theorem at_self (g : Gx) : g.at g.ex = g := rfl
end
end
end EV

namespace EV
open PySem PySem.Spec PyProof.Rows L2

/-! ### try with clauses of both kinds: with a name, without one -/
structure Cl where
  cls : Value
  slot : Option Nat
  ts : Addr → Value → Option Addr → TS
/-- the ends as the suite of a named clause has them: the name is gone behind it -/
def Ends.cut (D : Ends) (i : Nat) : Ends := ⟨fun σ H => D.nx (σ.set i none) H, D.rt, fun σ H => D.bk (σ.set i none) H, fun σ H => D.ct (σ.set i none) H⟩
def Cl.run (k : Cl) (ad : Addr) (cv : Value) (dd : Option Addr) (D : Ends) (σ : L2.St) (H : Hp) : Prop := match k.slot with
  | none => k.ts ad cv dd D σ H
  | some i => k.ts ad cv dd (Ends.cut D i) (σ.set i (some (.ref ad))) H
def wMix (K : PySem.W.Frag) (Wo : WX) (D : Ends) : List Cl → WX
  | [] => Wo
  | k :: ks => fun cv dd σ H => ∃ b, PySem.W.exmOne K cv k.cls = some b ∧ (b = true → ∀ ad, H ad = none → k.run ad cv dd D σ H) ∧ (b = false → wMix K Wo D ks cv dd σ H)
inductive HdsMix (X : Cx) : List ExceptHandler → List Cl → Prop
  | nil : HdsMix X [] []
  | plain {x : Str} {cv : Value} {ts : Addr → Value → Option Addr → TS} {b0 : Stmt} {bs : List Stmt} {p1 p2 : Pos} {hds : List ExceptHandler} {ks : List Cl} (nm : Names X x cv)
      (su : ∀ (ad : Addr) (ob : Obj) (cl : Value) (dd : Option Addr) (pn : List (Addr × Obj)), Zc cl dd ob → (∃ vs, ob.data = .fields vs) → PSs (X.suite ad ((ad, ob) :: pn)) (b0 :: bs) (ts ad cl dd)) (more : HdsMix X hds ks) :
      HdsMix X (.ExceptHandler (some (.Name x p1)) none (b0 :: bs) p2 :: hds) (⟨cv, none, ts⟩ :: ks)
  | named {x n : Str} {i : Nat} {cv : Value} {ts : Addr → Value → Option Addr → TS} {b0 : Stmt} {bs : List Stmt} {p1 p2 : Pos} {hds : List ExceptHandler} {ks : List Cl} (nm : Names X x cv) (hi : X.N[i]? = some n) (hl : X.env.kindOf n = some .local)
      (su : ∀ (ad : Addr) (ob : Obj) (cl : Value) (dd : Option Addr) (pn : List (Addr × Obj)), Zc cl dd ob → (∃ vs, ob.data = .fields vs) → PSs (X.suite ad ((ad, ob) :: pn)) (b0 :: bs) (ts ad cl dd)) (more : HdsMix X hds ks) :
      HdsMix X (.ExceptHandler (some (.Name x p1)) (some n) (b0 :: bs) p2 :: hds) (⟨cv, some i, ts⟩ :: ks)
section
variable {X : Cx} {body : List Stmt} {h0 : ExceptHandler} {hds : List ExceptHandler} {ks : List Cl} {pos : Pos} {tb : WX → TS} {Wo : WX}
theorem ps_try_mix (hs : X.stack = X.env :: X.outer) (hf : X.env.frame = some X.env.locals) (hN : X.N.Nodup) (tk : Takes X Wo)
    (hb : ∀ (W : WX) (pn : List (Addr × Obj)) (xe : Value → Shared → Prop), Takes (X.tr pn xe) W → PassesOwn (model X.prog X.w) X.A X.env xe → PSs (X.tr pn xe) body (tb W))
    (hh : HdsMix X (h0 :: hds) ks) : PS X (.Try body (h0 :: hds) [] [] pos) (fun D σ H => tb (wMix X.K Wo D ks) D σ H) := by
  refine ⟨fun pins s σ H D I goal => ?_⟩
  have okX := I.ok
  have fr : X.A.frames = some (X.env :: X.outer) := by rw [okX.frames, hs]
  refine wpAny_Try_except (wpAny_mono ((hb (wMix X.K Wo D ks) (X.pn ++ pins)
    (fun ev t1 => wpAny (model X.prog X.w) X.A (noteFrame ev X.env) (fun _ t2 => wpAny (model X.prog X.w) X.A (setFlight ev none)
      (fun _ t3 => wpAny (model X.prog X.w) X.A (handleBy ev X.env (h0 :: hds)) (SP X pins D) X.xe t3) X.xe t2) X.xe t1)
    (fun u s' air => ?_) PassesOwn.looking).run [] s σ H D (I.toTry _) goal) (fun fl t1 out => ?_) (fun _ _ z => z))
  · obtain ⟨ad, B, sI, pins', σ', H', cv, dd, rfl, J', nb, up, sky, na, os, ag, w⟩ := air
    have J : Inv X pins σ' H' sI := J'.ofTry okX
    rw [hs] at sky
    show wpAny (model X.prog X.w) X.A (noteFrame (.ref ad) X.env) _ _ _
    refine Sky.land Zc.steady fr hf sky fun hA flA upA => ?_
    have JA : Inv X pins σ' H' { s' with heap := hA } := J.landed nb flA.1 (up.trans upA) os ag
    obtain ⟨oA, vA, eA, zA, dA⟩ := flA.there
    have out : ad ∉ frs (X.env :: X.outer) := by
      intro hm
      obtain ⟨_, o', e', nf⟩ := flA.2.2.1.mem hm
      rw [eA] at e'
      cases e'
      exact nf _ dA
    have outL : ad ≠ X.env.locals := by
      intro z
      exact out (List.mem_filterMap.mpr ⟨X.env, List.mem_cons_self, by rw [hf, z]⟩)
    have outF : ad ∉ X.fs := by
      intro hm
      obtain ⟨ev, he, q⟩ := List.mem_filterMap.mp hm
      exact out (List.mem_filterMap.mpr ⟨ev, List.mem_cons_of_mem _ he, q⟩)
    have SA := JA.suite eA dA na outL outF
    have tell : PySem.W.Looks (model X.prog X.w) hA (typeOf (.ref ad)) cv := by
      intro A Q E t k q
      exact wpAny_typeOf_ref (k _ _ eA) (by rw [zA.1]; exact q)
    -- the class that a clause names
    have named : ∀ {x : Str} {c : Value} {np : Pos} {Q : Value → Shared → Prop} {E : Value → Shared → Prop}, Names X x c → Q c { s' with heap := hA } →
        wpAny (model X.prog X.w) (X.A.mark (some (.ref ad))) (eval (.Name x np) X.env) Q E { s' with heap := hA } := by
      intro x c np Q E nm q
      obtain ⟨hg, hd, hm | ⟨hm, hv, hn⟩⟩ := nm
      · exact ld_glob (X := X.suite ad ((ad, oA) :: (X.pn ++ pins))) SA hg hm q hd
      · exact ld_blt (X := X.suite ad ((ad, oA) :: (X.pn ++ pins))) SA hg hm hv q hn hd
    have go : ∀ {hs' : List ExceptHandler} {ks' : List Cl}, HdsMix X hs' ks' → wMix X.K Wo D ks' cv dd σ' H' →
        wpAny (model X.prog X.w) X.A (handleBy (.ref ad) X.env hs') (SP X pins D) X.xe { s' with heap := hA } := by
      intro hs' ks' hk
      induction hk with
      | nil =>
        intro w
        obtain ⟨_, _, _, _, _, T0, _, _, he, _, hd, h1, _⟩ := id flA
        refine wpAny_handleBy_nil ?_
        unfold PySem.passOn
        refine wpAny_bind (wpAny_field he hd h1 ?_)
        rw [if_neg (by simp : ¬ ((Value.ref T0 == Value.none) = true))]
        have last : wpAny (model X.prog X.w) X.A (setFlight (.ref ad) X.env.frame) (fun _ t4 => wpAny (model X.prog X.w) X.A (throw (.ref ad) : Sem Flow) (SP X pins D) X.xe t4) X.xe { s' with heap := hA } := by
          rw [hf]
          exact HandSPX.setFlight_upZ flA fun hB heB upB => wpAny_throw (tk _ _ ⟨ad, B, sI, pins, σ', H', cv, dd, rfl, J, nb, (up.trans upA).trans upB, .inr (.inr (by rw [hs]; exact heB)), na, os, ag, w⟩)
        first
          | exact wpAny_bind (wpAny_pure (wpAny_bind last))
          | exact wpAny_bind last
      | plain nm su more ih =>
        rintro ⟨b, eb, yes, no⟩
        refine wpAny_handleBy_cons (codeAny_handlers_test (named nm ((PySem.W.exm_one (M := model X.prog X.w) JA.kIn tell eb).here ?_))) (by intro q; cases q)
        cases b with
        | false => exact ih (no rfl)
        | true =>
          refine codeAny_handlers_suite (HandSPX.lands_againZ flA fun hB flB upB => ?_)
          have JB : Inv X pins σ' H' { s' with heap := hB } := J.landed nb flB.1 ((up.trans upA).trans upB) os ag
          obtain ⟨oB, vB, eB, zB, dB⟩ := flB.there
          refine wpAny_mono ((su ad oB cv dd (X.pn ++ pins) zB ⟨_, dB⟩).run [] _ _ H' _ (JB.suite eB dB na outL outF) (yes rfl ad na)) (fun fl t6 res => ?_) (fun _ _ z => False.elim z)
          cases fl with
          | ret u => obtain ⟨v6, σ6, H6, S6, r6, q6⟩ := res; exact ⟨_, _, _, S6.unsuite okX, r6, q6⟩
          | next => obtain ⟨σ6, H6, S6, q6⟩ := res; exact ⟨_, _, S6.unsuite okX, q6⟩
          | brk => obtain ⟨σ6, H6, S6, q6⟩ := res; exact ⟨_, _, S6.unsuite okX, q6⟩
          | cont => obtain ⟨σ6, H6, S6, q6⟩ := res; exact ⟨_, _, S6.unsuite okX, q6⟩
      | @named x n i c ts b0 bs p1 p2 hds2 ks2 nm hi hl su more ih =>
        rintro ⟨b, eb, yes, no⟩
        refine wpAny_handleBy_cons (codeAny_handlers_test (named nm ((PySem.W.exm_one (M := model X.prog X.w) JA.kIn tell eb).here ?_))) (by intro q; cases q)
        cases b with
        | false => exact ih (no rfl)
        | true =>
          refine codeAny_handlers_suite_as (HandSPX.lands_againZ flA fun hB flB upB => ?_)
          have JB : Inv X pins σ' H' { s' with heap := hB } := J.landed nb flB.1 ((up.trans upA).trans upB) os ag
          obtain ⟨oB, vB, eB, zB, dB⟩ := flB.there
          refine store_ok (X := X.suite ad ((ad, oB) :: (X.pn ++ pins))) (v := .ref ad) (JB.suite eB dB na outL outF) hN hi (.inl hl) rfl (fun t5 S5 => ?_) (.inr hl)
          refine wpAny_mono ((su ad oB cv dd (X.pn ++ pins) zB ⟨_, dB⟩).run [] t5 _ H' _ S5 (yes rfl ad na)) (fun fl t6 res => ?_) (fun _ _ z => False.elim z)
          have gone : ∀ {σ6 : L2.St} {H6 : Hp} {Q : Shared → Prop}, Inv (X.suite ad ((ad, oB) :: (X.pn ++ pins))) [] σ6 H6 t6 → (∀ t7, Inv X pins (σ6.set i none) H6 t7 → Q t7) →
              wpAny (model X.prog X.w) X.A (do bindName X.env n .none; unbindBehindTheSuite X.env n p2) (fun _ t7 => Q t7) X.xe t6 := fun S6 hq => gone_ok (S6.unsuite okX) hN hi hl hq
          cases fl with
          | ret u => obtain ⟨v6, σ6, H6, S6, r6, q6⟩ := res; exact gone S6 fun t7 J7 => ⟨_, _, _, J7, r6, q6⟩
          | next => obtain ⟨σ6, H6, S6, q6⟩ := res; exact gone S6 fun t7 J7 => ⟨_, _, J7, q6⟩
          | brk => obtain ⟨σ6, H6, S6, q6⟩ := res; exact gone S6 fun t7 J7 => ⟨_, _, J7, q6⟩
          | cont => obtain ⟨σ6, H6, S6, q6⟩ := res; exact gone S6 fun t7 J7 => ⟨_, _, J7, q6⟩
    exact go hh w
  · cases fl with
    | ret u => obtain ⟨v, σ', H', J', r, q⟩ := out; exact ⟨v, σ', H', J'.ofTry okX, r, q⟩
    | next => obtain ⟨σ', H', J', q⟩ := out; exact wpAny_execs_nil ⟨σ', H', J'.ofTry okX, q⟩
    | brk => obtain ⟨σ', H', J', q⟩ := out; exact ⟨σ', H', J'.ofTry okX, q⟩
    | cont => obtain ⟨σ', H', J', q⟩ := out; exact ⟨σ', H', J'.ofTry okX, q⟩
end
end EV

namespace EV
open PySem PySem.Spec PyProof.Rows L2

/-! ### try, by what it does -/
/-- a clause: the classes it takes or not, its name's slot, its suite -/
structure Hd where
  m : List (Nat × Bool)
  slot : Option Nat
  f : CS
def cutS (o : Option Nat) (ρ : List Sl) : List Sl := match o with
  | none => ρ
  | some i => ρ.set i .no
def clean (S : Store) (ρ : List Sl) (k : Store → List Sl → Fl) : Fl := if noEx ρ = true then k S ρ else .stuck
def suiteK (o : Option Nat) (fl : Fl) : Fl := match fl with
  | .nx S ρ => clean S (cutS o ρ) .nx
  | .bk S ρ => clean S (cutS o ρ) .bk
  | .ct S ρ => clean S (cutS o ρ) .ct
  | .rt r S => .rt r S
  | _ => .stuck
def putE (o : Option Nat) (x : Exc) (ρ : List Sl) : List Sl := match o with
  | none => ρ
  | some i => ρ.set i (.exc x)
def hdl (x : Exc) (S : Store) (ρ : List Sl) : List Hd → Fl
  | [] => .err x S ρ
  | h :: hs => match h.m.lookup x.c with
    | some true => suiteK h.slot (h.f S (putE h.slot x ρ))
    | some false => hdl x S ρ hs
    | none => .stuck
def tryK (hs : List Hd) (fl : Fl) : Fl := match fl with
  | .err x S ρ => if noEx ρ = true then hdl x S ρ hs else .stuck
  | o => o
def sTry (fb : CS) (hs : List Hd) : CS := fun S ρ => tryK hs (fb S ρ)
def Par.su (p : Par) (ad : Addr) (cl : Value) (dd : Option Addr) : Par := ⟨p.g.at (some (ad, cl, dd)), fun _ _ _ _ => False⟩
/-- a clause and what it does -/
structure HdOk (p : Par) (k : Cl) (h : Hd) : Prop where
  slot : k.slot = h.slot
  m : ∀ (n : Nat) (b : Bool), h.m.lookup n = some b → PySem.W.exmOne p.g.K (.ref (p.g.cs n)) k.cls = some b
  ts : ∀ ad cl dd, k.ts ad cl dd = tOfS (p.su ad cl dd) h.f
section
variable {p : Par} {c : C0} {F : Hp} {μ : List Addr} {S : Store} {ρ : List Sl} {σ : L2.St} {H : Hp} {ad : Addr} {cl : Value} {dd : Option Addr}
theorem Cfg.off {w} (h : Cfg (p.g.at w) c F μ S ρ σ H) (n : noEx ρ = true) : Cfg p.g c F μ S ρ σ H := Cfg.at (g := p.g.at w) (w := p.g.ex) h n
theorem clean_ok {k : Store → List Sl → Fl} {D : Ends} (h : PostS p c (clean S ρ k) D) : noEx ρ = true ∧ PostS p c (k S ρ) D := by
  unfold clean at h
  split at h
  · exact ⟨by assumption, h⟩
  · exact h.elim
def endsO (o : Option Nat) (D : Ends) : Ends := match o with
  | none => D
  | some i => Ends.cut D i
theorem suite_post {o : Option Nat} {fl : Fl} {D : Ends} (h : PostS p c (suiteK o fl) D) : PostS (p.su ad cl dd) c fl (endsO o D) := by
  cases fl with
  | nx S ρ =>
    obtain ⟨n, q⟩ := clean_ok h
    cases o with
    | none => exact fun F μ σ H C => q F μ σ H (C.off n)
    | some i => exact fun F μ σ H C => q F μ _ H (C.unset.off n)
  | bk S ρ =>
    obtain ⟨n, q⟩ := clean_ok h
    cases o with
    | none => exact fun F μ σ H C => q F μ σ H (C.off n)
    | some i => exact fun F μ σ H C => q F μ _ H (C.unset.off n)
  | ct S ρ =>
    obtain ⟨n, q⟩ := clean_ok h
    cases o with
    | none => exact fun F μ σ H C => q F μ σ H (C.off n)
    | some i => exact fun F μ σ H C => q F μ _ H (C.unset.off n)
  | rt r S =>
    cases o with
    | none => exact fun v F μ H s st x rr => h v F μ H s (RelS.at (g := (p.su ad cl dd).g) (w := p.g.ex) st) x (RelR.at (g := (p.su ad cl dd).g) (w := p.g.ex) rr)
    | some i => exact fun v F μ H s st x rr => h v F μ H s (RelS.at (g := (p.su ad cl dd).g) (w := p.g.ex) st) x (RelR.at (g := (p.su ad cl dd).g) (w := p.g.ex) rr)
  | err x S ρ => exact h.elim
  | stuck => exact h.elim
theorem Cfg.setExc {i : Nat} {x : Exc} (C : Cfg p.g c F μ S ρ σ H) (n : noEx ρ = true) (ex : ExR p.g F μ H x cl dd) : Cfg (p.g.at (some (ad, cl, dd))) c F μ S (ρ.set i (.exc x)) (σ.set i (some (.ref ad))) H := by
  have C' : Cfg (p.g.at (some (ad, cl, dd))) c F μ S ρ σ H := C.at n
  refine ⟨C'.sub, C'.st, C'.ext, C'.sub0, C'.st0, by rw [List.length_set, List.length_set, C'.len], fun j sl o e1 e2 => ?_, fun j k t u a e1 e2 e3 e4 => ?_⟩
  · by_cases hj : i = j
    · subst hj
      have hi : i < ρ.length := by
        have := (List.getElem?_eq_some_iff.mp e1).1
        rwa [List.length_set] at this
      rw [List.getElem?_set_self hi] at e1
      rw [List.getElem?_set_self (by rw [← C.len]; exact hi)] at e2
      cases e1; cases e2
      refine ⟨ad, cl, dd, rfl, rfl, ex.1, ex.2.imp id fun ⟨z0, d2, vs, z1, z2, z3⟩ => ⟨z0, d2, vs, z1, z2, z3.at⟩⟩
    · rw [List.getElem?_set_ne hj] at e1 e2
      exact C'.sl j sl o e1 e2
  · have ne : ∀ (j : Nat) (t : T), (ρ.set i (.exc x))[j]? = some (.own t) → i ≠ j := by
      intro j t e hj
      subst hj
      have hi : i < ρ.length := by
        have := (List.getElem?_eq_some_iff.mp e).1
        rwa [List.length_set] at this
      rw [List.getElem?_set_self hi] at e; cases e
    have n1 := ne j t e1
    have n2 := ne k u e2
    rw [List.getElem?_set_ne n1] at e1 e3
    rw [List.getElem?_set_ne n2] at e2 e4
    exact C'.ap j k t u a e1 e2 e3 e4
theorem wMix_of {D : Ends} {x : Exc} : ∀ {ks : List Cl} {hs : List Hd}, Paired (HdOk p) ks hs → Cfg p.g c F μ S ρ σ H → noEx ρ = true → ExR p.g F μ H x cl dd → PostS p c (hdl x S ρ hs) D → wMix p.g.K p.W D ks cl dd σ H
  | _, _, .nil, C, n, ex, q => q cl dd F μ σ H C ex
  | _, _, .cons (a := k) (b := h) ok more, C, n, ex, q => by
    have q : PostS p c (match h.m.lookup x.c with
      | some true => suiteK h.slot (h.f S (putE h.slot x ρ))
      | some false => hdl x S ρ _
      | none => .stuck) D := q
    cases e : h.m.lookup x.c with
    | none => rw [e] at q; exact q.elim
    | some b =>
      rw [e] at q
      refine ⟨b, by rw [ex.1]; exact ok.m _ _ e, fun hb => ?_, fun hb => ?_⟩
      · subst hb
        intro ad had
        have q2 := suite_post (ad := ad) (cl := cl) (dd := dd) (show PostS p c (suiteK h.slot (h.f S (putE h.slot x ρ))) D from q)
        unfold Cl.run
        rw [ok.slot]
        cases es : h.slot with
        | none =>
          rw [es] at q2
          show k.ts ad cl dd D σ H
          rw [ok.ts]
          exact ⟨c, F, μ, S, ρ, C.at n, q2⟩
        | some i =>
          rw [es] at q2
          show k.ts ad cl dd (Ends.cut D i) (σ.set i (some (.ref ad))) H
          rw [ok.ts]
          exact ⟨c, F, μ, S, ρ.set i (.exc x), C.setExc n ex, q2⟩
      · subst hb
        exact wMix_of more C n ex q
end
section
variable {X : Cx} {p : Par} {body : List Stmt} {h0 : ExceptHandler} {hds : List ExceptHandler} {ks : List Cl} {hs : List Hd} {fb : CS} {pos : Pos}
theorem s_try (hK : X.K = p.g.K) (hst : X.stack = X.env :: X.outer) (hf : X.env.frame = some X.env.locals) (hN : X.N.Nodup) (tk : Takes X p.W)
    (hb : ∀ (W : WX) (pn : List (Addr × Obj)) (xe : Value → Shared → Prop), Takes (X.tr pn xe) W → PassesOwn (model X.prog X.w) X.A X.env xe → SB (X.tr pn xe) ⟨p.g, W⟩ body fb)
    (hh : HdsMix X (h0 :: hds) ks) (ok : Paired (HdOk p) ks hs) : SS X p (.Try body (h0 :: hds) [] [] pos) (sTry fb hs) := by
  refine PS.imp (ps_try_mix (tb := fun W => tOfS ⟨p.g, W⟩ fb) hst hf hN tk hb hh) fun D σ H h => ?_
  have eK : wMix X.K p.W D ks = wMix p.g.K p.W D ks := by rw [hK]
  show tOfS ⟨p.g, wMix X.K p.W D ks⟩ fb D σ H
  rw [eK]
  obtain ⟨c, F, μ, S, ρ, C, q⟩ := h
  refine ⟨c, F, μ, S, ρ, C, ?_⟩
  unfold sTry at q
  cases e : fb S ρ with
  | nx S1 ρ1 => rw [e] at q; exact q
  | rt r S1 => rw [e] at q; exact q
  | bk S1 ρ1 => rw [e] at q; exact q
  | ct S1 ρ1 => rw [e] at q; exact q
  | stuck => rw [e] at q; exact q
  | err x S1 ρ1 =>
    rw [e] at q
    have q : PostS p c (if noEx ρ1 = true then hdl x S1 ρ1 hs else .stuck) D := q
    split at q
    · rename_i n
      exact fun cl dd F1 μ1 σ1 H1 C1 ex => wMix_of ok C1 n ex q
    · exact q.elim
/-- the clauses with their suites -/
structure HdsE (X : Cx) (p : Par) (hds : List ExceptHandler) (hs : List Hd) : Prop where
  ex : ∃ ks, HdsMix X hds ks ∧ Paired (HdOk p) ks hs
theorem h_nil : HdsE X p [] [] := ⟨[], .nil, .nil⟩
theorem lookup_mem {β : Type} {c : Nat} {b : β} : ∀ {l : List (Nat × β)}, l.lookup c = some b → (c, b) ∈ l
  | [], e => by cases e
  | (x, y) :: l, e => by
    rw [List.lookup_cons] at e
    split at e
    · rename_i he
      cases e
      rw [beq_iff_eq.mp he]
      exact List.mem_cons_self
    · exact List.mem_cons_of_mem _ (lookup_mem e)
theorem exm_m {g : Gx} {l : List (Nat × Bool)} {n : Nat} (h1 : PySem.W.subIn g.K (.ref (g.cs n)) (.type "BaseException") = some true) (h2 : PySem.W.hasDictIn g.K (g.cs n) = true) (h3 : PySem.W.typeIn g.K (.ref (g.cs n)) = some (.type "type"))
    (h : ∀ q ∈ l, PySem.W.subIn g.K (.ref (g.cs q.1)) (.ref (g.cs n)) = some q.2) : ∀ (c : Nat) (b : Bool), l.lookup c = some b → PySem.W.exmOne g.K (.ref (g.cs c)) (.ref (g.cs n)) = some b := by
  intro c b e
  have : (c, b) ∈ l := lookup_mem e
  exact PySem.W.exm_ref h1 h2 h3 (h _ this)
theorem h_plain {x : Str} {n : Nat} {l : List (Nat × Bool)} {b0 : Stmt} {bs : List Stmt} {p1 p2 : Pos} {f : CS} (hg : Gl X x) (hm : X.mg x = some (.ref (p.g.cs n))) (hl : ∀ (c : Nat) (b : Bool), l.lookup c = some b → PySem.W.exmOne p.g.K (.ref (p.g.cs c)) (.ref (p.g.cs n)) = some b)
    (su : ∀ (ad : Addr) (ob : Obj) (cl : Value) (dd : Option Addr) (pn : List (Addr × Obj)), Zc cl dd ob → (∃ vs, ob.data = .fields vs) → SB (X.suite ad ((ad, ob) :: pn)) (p.su ad cl dd) (b0 :: bs) f) (more : HdsE X p hds hs) (hdb : (x == ("__debug__" : Str)) = false := by decide) :
    HdsE X p (.ExceptHandler (some (.Name x p1)) none (b0 :: bs) p2 :: hds) (⟨l, none, f⟩ :: hs) := by
  obtain ⟨ks, h1, h2⟩ := more.ex
  exact ⟨⟨.ref (p.g.cs n), none, fun ad cl dd => tOfS (p.su ad cl dd) f⟩ :: ks, .plain ⟨hg, hdb, .inl hm⟩ su h1, .cons ⟨rfl, hl, fun _ _ _ => rfl⟩ h2⟩
theorem h_named {x nm : Str} {i n : Nat} {l : List (Nat × Bool)} {b0 : Stmt} {bs : List Stmt} {p1 p2 : Pos} {f : CS} (hg : Gl X x) (hm : X.mg x = some (.ref (p.g.cs n))) (hi : X.N[i]? = some nm) (hlc : X.env.kindOf nm = some .local) (hl : ∀ (c : Nat) (b : Bool), l.lookup c = some b → PySem.W.exmOne p.g.K (.ref (p.g.cs c)) (.ref (p.g.cs n)) = some b)
    (su : ∀ (ad : Addr) (ob : Obj) (cl : Value) (dd : Option Addr) (pn : List (Addr × Obj)), Zc cl dd ob → (∃ vs, ob.data = .fields vs) → SB (X.suite ad ((ad, ob) :: pn)) (p.su ad cl dd) (b0 :: bs) f) (more : HdsE X p hds hs) (hdb : (x == ("__debug__" : Str)) = false := by decide) :
    HdsE X p (.ExceptHandler (some (.Name x p1)) (some nm) (b0 :: bs) p2 :: hds) (⟨l, some i, f⟩ :: hs) := by
  obtain ⟨ks, h1, h2⟩ := more.ex
  exact ⟨⟨.ref (p.g.cs n), some i, fun ad cl dd => tOfS (p.su ad cl dd) f⟩ :: ks, .named ⟨hg, hdb, .inl hm⟩ hi hlc su h1, .cons ⟨rfl, hl, fun _ _ _ => rfl⟩ h2⟩
theorem s_tryE (hK : X.K = p.g.K) (hst : X.stack = X.env :: X.outer) (hf : X.env.frame = some X.env.locals) (hN : X.N.Nodup) (tk : Takes X p.W)
    (hb : ∀ (W : WX) (pn : List (Addr × Obj)) (xe : Value → Shared → Prop), Takes (X.tr pn xe) W → PassesOwn (model X.prog X.w) X.A X.env xe → SB (X.tr pn xe) ⟨p.g, W⟩ body fb)
    (hh : HdsE X p (h0 :: hds) hs) : SS X p (.Try body (h0 :: hds) [] [] pos) (sTry fb hs) := by
  obtain ⟨ks, h1, h2⟩ := hh.ex
  exact s_try hK hst hf hN tk hb h1 h2

theorem fa_nil {α : Type} {P : α → Prop} : ∀ q ∈ ([] : List α), P q := fun _ h => nomatch h
theorem fa_cons {α : Type} {P : α → Prop} {a : α} {l : List α} (h : P a) (t : ∀ q ∈ l, P q) : ∀ q ∈ a :: l, P q := fun q hq => by
  rcases List.mem_cons.mp hq with rfl | hq
  · exact h
  · exact t q hq
/-! ### the caught exception, asked -/
def cIsE (i : Nat) (l : List (Nat × Bool)) : CE := fun S ρ => match ρ[i]? with
  | some (.exc x) => match l.lookup x.c, x.fs with
    | some b, [] => .ok ⟨.frz, .bl b⟩ S
    | _, _ => .stuck
  | _ => .stuck
theorem e_isE {i : Nat} {cv : Value} {v : V} {l : List (Nat × Bool)} {nm : Str} {b : Expr} {p' p2 : Pos} {ad : Addr} {ob : Obj} {cl : Value} {dd : Option Addr} {pn : List (Addr × Obj)} (hK : X.K = p.g.K) (hz : Zc cl dd ob) (hf : ∃ vs, ob.data = .fields vs)
    (hg : Gl X "isinstance") (hm : X.mg "isinstance" = none) (hv : PE (X.suite ad ((ad, ob) :: pn)) (.Name nm p2) (tVar i)) (hc : PE (X.suite ad ((ad, ob) :: pn)) b (tC v)) (hcv : ∀ u, RelV v u → u = cv)
    (hl : ∀ q ∈ l, ExcC p.g.K (p.g.cs q.1) ∧ PySem.W.kitOne p.g.K (.ref (p.g.cs q.1)) cv = some q.2)
    (he : starEach [.Name nm p2, b] X.env = (false, eval (.Name nm p2) X.env) :: starEach [b] X.env := by rfl) (hpl : (backTo pos (starEach [b] X.env)).any (·.1) = false := by rfl) (he2 : starEach [b] X.env = (false, eval b X.env) :: starEach [] X.env := by rfl) :
    EE (X.suite ad ((ad, ob) :: pn)) (p.su ad cl dd) (.Call (.Name "isinstance" p') [.Name nm p2, b] [] pos) (cIsE i l) := by
  refine ⟨fun pins s σ H Q I h => ?_⟩
  obtain ⟨c, F, μ, S, ρ, C, q⟩ := h
  unfold cIsE at q
  cases e : ρ[i]? with
  | none => rw [e] at q; exact q.elim
  | some sl =>
    rw [e] at q
    cases sl with
    | exc x =>
      have hi : i < σ.length := by rw [← C.len]; exact (List.getElem?_eq_some_iff.mp e).1
      have hs : σ[i]? = some σ[i] := List.getElem?_eq_getElem hi
      obtain ⟨y, cl2, d2, e1, e2, e3, e4⟩ := C.sl i _ _ e hs
      cases e1
      have q : PostG (p.su ad cl dd) (RelR (p.su ad cl dd).g) c σ ρ F μ H (match l.lookup x.c, x.fs with
        | some b, [] => .ok ⟨.frz, .bl b⟩ S
        | _, _ => .stuck) Q := q
      cases ef : l.lookup x.c with
      | none => rw [ef] at q; exact q.elim
      | some bb =>
      cases el : x.fs with
      | cons _ _ => rw [ef, el] at q; exact q.elim
      | nil =>
        rw [ef, el] at q
        have hmem : (x.c, bb) ∈ l := lookup_mem ef
        obtain ⟨xc, kt⟩ := hl _ hmem
        have e5 : dd = none := by
          rcases e4 with e4 | e4
          · exact e4.2
          · exact absurd el e4.1
        subst e5
        have e3 : cl = .ref (p.g.cs x.c) := e3
        subst e3
        rw [← hK] at xc
        have kt' : PySem.W.kitOne X.K (.ref (p.g.cs x.c)) cv = some bb := by rw [hK]; exact kt
        refine (pe_callB (X := X.suite ad ((ad, ob) :: pn)) (call_isE xc hz hf) hg hm boot_isinstance (pa_cons hv (pa_cons hc pa_nil he2) he) (by decide) (by decide) he hpl).run pins s σ H Q I ?_
        refine ⟨.ref ad, by rw [hs, e2], v, cv, bb, rfl, hcv, kt', q _ F μ H C (Ext.refl _ _ _) rfl⟩
    | no => exact q.elim
    | val t => exact q.elim
    | own t => exact q.elim
    | bor t => exact q.elim
end
end EV

namespace EV
open PySem PySem.Spec PyProof.Rows L2

/-! ### a list of one's own: laid fast, grown, changed by place -/
section
variable {g : Gx} {c : C0} {F : Hp} {μ : List Addr} {S : Store} {ρ : List Sl} {σ : L2.St} {H : Hp} {i : Nat} {t : T}
theorem Cfg.slot (C : Cfg g c F μ S ρ σ H) {s : Sl} (e : ρ[i]? = some s) : ∃ o, σ[i]? = some o ∧ SlR g c F μ H s o := by
  have hi : i < σ.length := by rw [← C.len]; exact (List.getElem?_eq_some_iff.mp e).1
  exact ⟨σ[i], List.getElem?_eq_getElem hi, C.sl i s _ e (List.getElem?_eq_getElem hi)⟩
/-- the list of slot i never changes from here on -/
theorem Cfg.frzSlot (C : Cfg g c F μ S ρ σ H) (e : ρ[i]? = some (.own t)) : ∃ F', Cfg g c F' μ S (ρ.set i (.val t)) σ H := by
  obtain ⟨o, e2, a, rfl, b, f, h0⟩ := C.slot e
  have s : Sub F (froz F H a) := froz_sub f
  have am : a ∉ μ := b.ne_mem C.st
  refine ⟨froz F H a, froz_le C.sub, C.st.mono s fun y hy => ?_, ⟨C.ext.fr.trans s, fun y o e => ?_, C.ext.pre, C.ext.obn, C.ext.kp⟩, C.sub0, C.st0, by rw [List.length_set, C.len], fun j sl o e1 e3 => ?_, fun j k u w y e1 e3 e4 e5 => ?_⟩
  · rw [froz_ne (fun z => am (by rw [← z]; exact hy))]
    obtain ⟨_, _, _, _, q⟩ := C.st.ins hy
    exact q
  · by_cases z : y = a
    · rw [z]; exact .inr h0
    · rw [froz_ne z] at e; exact C.ext.new y o e
  · by_cases hj : i = j
    · subst hj
      rw [List.getElem?_set_self (List.getElem?_eq_some_iff.mp e).1] at e1
      cases e1
      rw [e2] at e3
      cases e3
      exact ⟨_, rfl, b.fz f⟩
    · rw [List.getElem?_set_ne hj] at e1
      have q := C.sl j sl o e1 e3
      cases sl with
      | no => trivial
      | val u => obtain ⟨v, e, z⟩ := q; exact ⟨v, e, Fz.mono s (Pre.refl _) z⟩
      | own u =>
        obtain ⟨y, e6, z, z2, z3⟩ := q
        have ne : y ≠ a := fun w => hj (C.ap i j t u a e e1 e2 (by rw [e3, e6, w]))
        exact ⟨y, e6, z.mono' s (Pre.refl _) fun _ h => h, by rw [froz_ne ne]; exact z2, z3⟩
      | bor u =>
        obtain ⟨y, e6, z, z2⟩ := q
        obtain ⟨w, hw⟩ := z.has
        exact ⟨y, e6, z.mono' s (Pre.refl _) fun _ h => h, z2.imp id fun k => by rw [hw] at k ⊢; exact s _ _ k⟩
      | exc x => obtain ⟨y, cls, d, e1, e2, e3, e4⟩ := q; exact ⟨y, cls, d, e1, e2, e3, e4.imp id fun ⟨z0, dd, vs, z1, z2, z3⟩ => ⟨z0, dd, vs, z1, s _ _ z2, FzF.mono s (Pre.refl _) z3⟩⟩
  · have n : ∀ (j : Nat) (u : T), (ρ.set i (.val t))[j]? = some (.own u) → i ≠ j := by
      intro j u h hj
      subst hj
      rw [List.getElem?_set_self (List.getElem?_eq_some_iff.mp e).1] at h
      cases h
    have n1 := n j u e1
    have n2 := n k w e3
    rw [List.getElem?_set_ne n1] at e1
    rw [List.getElem?_set_ne n2] at e3
    exact C.ap j k u w y e1 e3 e4 e5
/-- the list of slot i gets other items -/
theorem Cfg.mutOwn {ts ts' : List T} {vs' : List V} {a : Addr} (C : Cfg g c F μ S ρ σ H) (e : ρ[i]? = some (.own (.lst ts))) (e2 : σ[i]? = some (some (.ref a))) (fz : FzL g F μ ts' vs') :
    Cfg g c F μ S (ρ.set i (.own (.lst ts'))) σ (upd H a (.lst vs')) := by
  obtain ⟨o, e2', a', ho, b, f, h0⟩ := C.slot e
  rw [e2] at e2'; cases e2'; cases ho
  have am : a ∉ μ := b.ne_mem C.st
  refine ⟨fun y u h => ?_, ⟨C.st.len, C.st.nd, fun n y h => ?_⟩, ⟨C.ext.fr, C.ext.new, C.ext.pre, C.ext.obn, fun y u h => ?_⟩, C.sub0, C.st0, by rw [List.length_set, C.len], fun j sl o e1 e3 => ?_, fun j k u w y e1 e3 e4 e5 => ?_⟩
  · rw [upd_ne (fun z => by rw [z, f] at h; cases h)]; exact C.sub _ _ h
  · obtain ⟨ob, dx, vs, x1, x2, x3, x4⟩ := C.st.at_ n y h
    exact ⟨ob, dx, vs, x1, by rw [upd_ne (fun z => am (by rw [← z]; exact List.mem_of_getElem? h))]; exact x2, x3, x4⟩
  · refine (C.ext.kp y u h).imp id fun q => ?_
    rw [upd_ne (fun z => by rw [z, h0] at h; cases h)]; exact q
  · by_cases hj : i = j
    · subst hj
      rw [List.getElem?_set_self (List.getElem?_eq_some_iff.mp e).1] at e1
      cases e1
      rw [e2] at e3; cases e3
      exact ⟨a, rfl, ⟨vs', upd_same, fz⟩, f, h0⟩
    · rw [List.getElem?_set_ne hj] at e1
      have q := C.sl j sl o e1 e3
      cases sl with
      | no => trivial
      | val u => exact q
      | own u =>
        obtain ⟨y, e6, z, z2, z3⟩ := q
        have ne : y ≠ a := fun w => hj (C.ap i j _ u a e e1 e2 (by rw [e3, e6, w]))
        exact ⟨y, e6, z.mono' (Sub.refl _) (Pre.refl _) fun o h => by rw [upd_ne ne]; exact h, z2, z3⟩
      | bor u =>
        obtain ⟨y, e6, z, z2⟩ := q
        obtain ⟨w, hw⟩ := z.has
        have ne : y ≠ a := fun z => by
          rw [z] at z2 hw
          rcases z2 with z2 | z2
          · rw [h0, hw] at z2; cases z2
          · rw [f, hw] at z2; cases z2
        exact ⟨y, e6, z.mono' (Sub.refl _) (Pre.refl _) fun o h => by rw [upd_ne ne]; exact h, by rw [upd_ne ne]; exact z2⟩
      | exc x => exact q
  · have n : ∀ (j : Nat) (u : T), (ρ.set i (.own (.lst ts')))[j]? = some (.own u) → ∃ u', ρ[j]? = some (.own u') := by
      intro j u h
      by_cases hj : i = j
      · subst hj; exact ⟨_, e⟩
      · rw [List.getElem?_set_ne hj] at h; exact ⟨u, h⟩
    obtain ⟨u', h1⟩ := n j u e1
    obtain ⟨w', h2⟩ := n k w e3
    exact C.ap j k u' w' y h1 h2 e4 e5
end
def frzS (i : Nat) (ρ : List Sl) : List Sl := match ρ[i]? with
  | some (.own t) => ρ.set i (.val t)
  | _ => ρ
def sFrz (i : Nat) (f : CS) : CS := fun S ρ => f S (frzS i ρ)
def appK (i : Nat) (ρ : List Sl) (ts : List T) (r : R) (S : Store) : Fl := match r.kept with
  | some t => if ts.length < sizeLine then .nx S (ρ.set i (.own (.lst (ts ++ [t])))) else .stuck
  | none => .stuck
def sApp (i : Nat) (fe : CE) : CS := fun S ρ => match ρ[i]? with
  | some (.own (.lst ts)) => onR (fe S ρ) ρ (appK i ρ ts)
  | _ => .stuck
section
variable {X : Cx} {p : Par} {a b e tg : Expr} {es : List Expr} {fa fb fe : CE} {st : Stmt} {f : CS} {k : CA} {pos : Pos} {i : Nat}
theorem s_frz (h : SS X p st f) : SS X p st (sFrz i f) := by
  refine PS.imp h fun D σ H hh => ?_
  obtain ⟨c, F, μ, S, ρ, C, q⟩ := hh
  unfold sFrz frzS at q
  split at q
  · rename_i t e
    obtain ⟨F', C'⟩ := C.frzSlot e
    exact ⟨c, F', μ, S, _, C', q⟩
  · exact ⟨c, F, μ, S, ρ, C, q⟩
theorem s_app {x : Str} {p1 apos cpos : Pos} (hv : PE X (.Name x p1) (tVar i)) (he : EE X p e fe)
    (hfew : ((backTo cpos (starEach [e] X.env)).all (fun x => !x.1) && (backToKw cpos (keywordEach [] X.env)).all (fun x => x.1.isSome)
      && decide (([e] : List Expr).length + ([] : List Keyword).length + (if ([] : List Keyword).isEmpty then 0 else 1) < 30)) = true := by rfl)
    (hline : (apos.endLine == cpos.line) = true := by rfl) (hs1 : starEach [e] X.env = (false, eval e X.env) :: starEach [] X.env := by rfl) (hplain : (backTo cpos (starEach [] X.env)).any (·.1) = false := by rfl)
    (hbase : attributeBase (.Name x p1) "append" X.env (eval (.Name x p1) X.env) = eval (.Name x p1) X.env := by rfl)
    (hs : swapsWith (.Call (.Attribute (.Name x p1) "append" apos) [e] [] cpos) none pos.line X.env = pure false := by rfl) :
    SS X p (.Expr (.Call (.Attribute (.Name x p1) "append" apos) [e] [] cpos) pos) (sApp i fe) := by
  refine PS.imp (ps_expr (pe_bm PySem.F.plainAttrs_list PySem.F.slot_list_append PySem.F.type_list_append mt_append hv (pa_cons he pa_nil hs1) hbase hfew hline hs1 hplain) hs) fun D σ H hh => ?_
  obtain ⟨c, F, μ, S, ρ, C, q⟩ := hh
  have key : ∀ ts, ρ[i]? = some (.own (.lst ts)) → PostS p c (onR (fe S ρ) ρ (appK i ρ ts)) D → tDrop (tBM X.K "list" rAppend (tVar i) (tCons (tOf p fe) tNil)) D σ H := by
    intro ts e1 q
    obtain ⟨o, e2, a, rfl, ⟨vs, h1, h2⟩, f, h0⟩ := C.slot e1
    refine ⟨_, e2, .inl ⟨rfl, vs, .inl (.inl h1)⟩, ?_⟩
    refine tG.onR C q fun r S1 v F1 μ1 H1 C1 x1 r1 q1 => ?_
    unfold appK at q1
    split at q1
    · rename_i t ek
      split at q1
      · rename_i hl
        obtain ⟨o, e3, a', ho, ⟨vs1, h3, h4⟩, _⟩ := C1.slot e1
        rw [e2] at e3; cases e3; cases ho
        obtain ⟨F2, C2, x2, s2, z2⟩ := Cfg.keep C C1 x1 r1 ek
        refine ⟨a, vs1, v, rfl, rfl, h3, by rw [← h4.length]; exact hl, q1 F2 μ1 σ _ (C2.mutOwn e1 e2 ((FzL.mono s2 (Pre.refl _) h4).append ⟨v, [], rfl, z2, rfl⟩))⟩
      · exact q1.elim
    · exact q1.elim
  unfold sApp at q
  split at q
  · rename_i ts e1; exact key ts e1 q
  · exact q.elim
/-! ### slices -/
def cutT (ts : List T) (lo hi : Option Int) : List T := (ts.drop (HT.sIx ts.length 0 lo)).take (HT.sIx ts.length ts.length hi - HT.sIx ts.length 0 lo)
theorem FzL.drop {g F μ} : ∀ {ts : List T} {vs : List V} (n : Nat), FzL g F μ ts vs → FzL g F μ (ts.drop n) (vs.drop n)
  | _, _, 0, h => by rw [List.drop_zero, List.drop_zero]; exact h
  | [], vs, n + 1, h => by have h : vs = [] := h; rw [h]; exact rfl
  | t :: ts, vs, n + 1, h => by obtain ⟨v, r, rfl, _, b⟩ := h; exact FzL.drop n b
theorem FzL.take {g F μ} : ∀ {ts : List T} {vs : List V} (n : Nat), FzL g F μ ts vs → FzL g F μ (ts.take n) (vs.take n)
  | _, _, 0, h => by rw [List.take_zero, List.take_zero]; exact rfl
  | [], vs, n + 1, h => by have h : vs = [] := h; rw [h]; exact rfl
  | t :: ts, vs, n + 1, h => by obtain ⟨v, r, rfl, a, b⟩ := h; exact ⟨v, r.take n, rfl, a, FzL.take n b⟩
theorem FzL.cut {g F μ} {ts : List T} {vs : List V} (lo hi : Option Int) (h : FzL g F μ ts vs) : FzL g F μ (cutT ts lo hi) (cutV vs lo hi) := by
  unfold cutT cutV
  rw [h.length]
  exact (h.drop _).take _
abbrev CO := CF (Option Int)
def RelO' : Rel (Option Int) (Option Int) := fun _ _ _ _ b c => b = c
theorem rsO : RS RelO' := fun _ _ _ _ _ _ _ _ h => h
def EO (X : Cx) (p : Par) (e : Option Expr) (f : CO) : Prop := PO X e (tG p RelO' f)
theorem PO.imp {e : Option Expr} {t u : TO} (h : PO X e t) (k : ∀ σ H Q, u σ H Q → t σ H Q) : PO X e u := ⟨fun pins s σ H Q I q => h.run pins s σ H Q I (k _ _ _ q)⟩
def cNo : CO := fun S _ => .ok none S
def asI (r : R) (S : Store) : Res (Option Int) := match r.t with
  | .int i => .ok (some i) S
  | _ => .stuck
def cSo (f : CE) : CO := fun S ρ => (f S ρ).bind asI
theorem o_no : EO X p none cNo := by
  refine PO.imp po_none fun σ H Q h => ?_
  obtain ⟨c, F, μ, S, ρ, C, q⟩ := h
  exact q none F μ H C (Ext.refl _ _ _) rfl
theorem o_so (h : EE X p e fe) : EO X p (some e) (cSo fe) := by
  refine PO.imp (po_some h) fun σ H Q hh => ?_
  obtain ⟨c, F, μ, S, ρ, C, q⟩ := hh
  refine tG.bind rsO C q fun r S1 v F1 μ1 H1 C1 x1 r1 q1 _ => ?_
  unfold asI at q1
  split at q1
  · rename_i i e; exact ⟨i, r1.int e, q1 _ F1 μ1 H1 C1 (Ext.refl _ _ _) rfl⟩
  · exact q1.elim
def slcR (r : R) (lo hi : Option Int) (S : Store) : Res R := match r.t with
  | .lst ts => .ok ⟨.fresh, .lst (cutT ts lo hi)⟩ S
  | .tup ts => .ok ⟨.frz, .tup (cutT ts lo hi)⟩ S
  | _ => .stuck
def cSlc (f : CE) (lo hi : CO) : CE := fun S ρ => (f S ρ).bind fun r S1 => (lo S1 ρ).bind fun l S2 => (hi S2 ρ).bind fun u S3 => slcR r l u S3
theorem e_slc {lo hi : Option Expr} {fl fu : CO} {p2 : Pos} (hK : X.K = p.g.K) (he : EE X p e fe) (hl : EO X p lo fl) (hu : EO X p hi fu) : EE X p (.Subscript e (.Slice lo hi none p2) pos) (cSlc fe fl fu) := by
  refine PE.imp (pe_slice (sl_list.or sl_tupA) he hl hu) fun σ H Q h => ?_
  obtain ⟨c, F, μ, S, ρ, C, q⟩ := h
  refine tG.bind (rsR _) C q fun r S1 v F1 μ1 H1 C1 x1 r1 q1 _ => ?_
  refine tG.bind (rsR _) C1 q1 fun l S2 l' F2 μ2 H2 C2 x2 r2 q2 _ => ?_
  refine tG.bind (rsR _) C2 q2 fun u S3 u' F3 μ3 H3 C3 x3 r3 q3 _ => ?_
  cases r2; cases r3
  have r5 := (r1.mono C1.st x2).mono C2.st x3
  unfold slcR at q3
  split at q3
  · rename_i ts e
    obtain ⟨a, vs, rfl, h1, h2⟩ := r5.lst C3.sub e
    refine .inl ⟨a, vs, rfl, .inl (.inl h1), fun y hy => ?_⟩
    obtain ⟨C4, x4⟩ := C3.laid (a := y) (o := .lst (cutV vs l u)) hy
    exact q3 _ _ _ _ C4 x4 ⟨y, rfl, ⟨_, upd_same, h2.cut l u⟩, C3.free hy, hy⟩
  · rename_i ts e
    have g1 := r5.flat (by rw [e]; intro _ z; cases z) (by rw [e]; intro _ z; cases z) (by rw [e]; intro _ z; cases z)
    rw [e] at g1
    obtain ⟨a, vs, rfl, h1, h2⟩ := g1
    rw [← hK] at h1
    refine .inr ⟨a, vs, rfl, sqT_sub C3.sub h1, fun w => ?_, fun _ y hy => ?_⟩
    · refine q3 _ F3 μ3 H3 C3 (Ext.refl _ _ _) ⟨a, vs, rfl, by rw [← hK]; exact h1, ?_⟩
      have : cutT ts l u = ts := by
        unfold cutT
        rw [h2.length, w.1, w.2, List.drop_zero, Nat.sub_zero, ← h2.length, List.take_length]
      rw [this]; exact h2
    · obtain ⟨C4, x4⟩ := C3.laidF (a := y) (o := .tup (cutV vs l u)) hy
      exact q3 _ _ _ _ C4 x4 ⟨y, _, rfl, .inl (.inl upd_same), FzL.mono x4.fr x4.pre (h2.cut l u)⟩
  · exact q3.elim
/-! ### list(x), tuple(x) -/
def oList : Bcl := fun
  | [.lst ts] => some ⟨.fresh, .lst ts⟩
  | [.tup ts] => some ⟨.fresh, .lst ts⟩
  | _ => none
def oTuple : Bcl := fun
  | [.lst ts] => some ⟨.frz, .tup ts⟩
  | [.tup ts] => some ⟨.frz, .tup ts⟩
  | _ => none
theorem cals_list {g : Gx} : CalS g (fun xs H Q => ∃ p ys, xs = [.ref p] ∧ (SqL g.K H p ys ∨ SqT g.K H p ys) ∧ ∀ l, H l = none → Q (.ref l) (upd H l (.lst ys))) oList := by
  intro c F1 μ1 S1 H1 F μ S ρ σ H xs z vs Q C1 C xx r e k
  unfold oList at e
  split at e
  · rename_i ts h
    obtain ⟨x, v, rfl, rfl, h1, h2⟩ := relRs1 r h
    cases e
    obtain ⟨a, us, rfl, h3, h4⟩ := h2.lst C.sub h1
    refine ⟨a, us, rfl, .inl (.inl (.inl h3)), fun y hy => ?_⟩
    obtain ⟨C4, x4⟩ := C.laid (a := y) (o := .lst us) hy
    exact k _ _ _ _ C4 x4 ⟨y, rfl, ⟨_, upd_same, h4⟩, C.free hy, hy⟩
  · rename_i ts h
    obtain ⟨x, v, rfl, rfl, h1, h2⟩ := relRs1 r h
    cases e
    obtain ⟨a, us, rfl, h3, h4⟩ := h2.tup C.sub h1
    refine ⟨a, us, rfl, .inr h3, fun y hy => ?_⟩
    obtain ⟨C4, x4⟩ := C.laid (a := y) (o := .lst us) hy
    exact k _ _ _ _ C4 x4 ⟨y, rfl, ⟨_, upd_same, h4⟩, C.free hy, hy⟩
  · cases e
theorem cals_tuple {g : Gx} : CalS g (fun xs H Q => ∃ p ys, xs = [.ref p] ∧ ((SqL g.K H p ys ∧ ∀ l, H l = none → Q (.ref l) (upd H l (.tup ys))) ∨ (SqT g.K H p ys ∧ Q (.ref p) H))) oTuple := by
  intro c F1 μ1 S1 H1 F μ S ρ σ H xs z vs Q C1 C xx r e k
  unfold oTuple at e
  split at e
  · rename_i ts h
    obtain ⟨x, v, rfl, rfl, h1, h2⟩ := relRs1 r h
    cases e
    obtain ⟨a, us, rfl, h3, h4⟩ := h2.lst C.sub h1
    refine ⟨a, us, rfl, .inl ⟨.inl (.inl h3), fun y hy => ?_⟩⟩
    obtain ⟨C4, x4⟩ := C.laidF (a := y) (o := .tup us) hy
    exact k _ _ _ _ C4 x4 ⟨y, _, rfl, .inl (.inl upd_same), FzL.mono x4.fr x4.pre h4⟩
  · rename_i ts h
    obtain ⟨x, v, rfl, rfl, h1, h2⟩ := relRs1 r h
    cases e
    have g1 := h2.flat (by rw [h1]; intro _ z; cases z) (by rw [h1]; intro _ z; cases z) (by rw [h1]; intro _ z; cases z)
    rw [h1] at g1
    obtain ⟨a, us, rfl, h3, h4⟩ := g1
    exact ⟨a, us, rfl, .inr ⟨sqT_sub C.sub h3, k _ F μ H C (Ext.refl _ _ _) ⟨a, us, rfl, h3, h4⟩⟩⟩
  · cases e
end
end EV

namespace EV
open PySem PySem.Spec PyProof.Rows L2 SlX

/-! ### what is never reached -/
theorem s_any {X : Cx} {p : Par} {st : Stmt} : SS X p st (fun _ _ => .stuck) := ⟨fun _ _ _ _ _ _ h => by obtain ⟨_, _, _, _, _, _, q⟩ := h; exact q.elim⟩
theorem e_any {X : Cx} {p : Par} {e : Expr} : EE X p e (fun _ _ => .stuck) := ⟨fun _ _ _ _ _ _ h => by obtain ⟨_, _, _, _, _, _, q⟩ := h; exact q.elim⟩
theorem b_any {X : Cx} {p : Par} {e : Expr} : EB' X p e (fun _ _ => .stuck) := ⟨fun _ _ _ _ _ _ h => by obtain ⟨_, _, _, _, _, _, q⟩ := h; exact q.elim⟩

/-! ### x != y by the class's __eq__ -/
section
open PySem.W
variable {prog : Program} {w : World} {A : Around} {E : Value → Shared → Prop} {s : Shared} {K : Frag} {x C L f : Addr} {h₀ : Heap} {m : Str → Option Value} {ox : Obj} {od : Option Obj} {b tb : Value}
theorem ne_entry {Q : Fin → Shared → Prop} (hu : A.units < cLine) (X : K.In s.heap) (I : InstAt s.heap x ox C od) (hs : findIn K (.ref C) "__eq__" = some (some (.ref f))) (hf : isFn K (.ref f) = true)
    (h : wpAny (model prog w) A (call (.ref f) [.ref x, b]) (fun v s' => ∃ k, v = .bool k ∧ Q (.done (.ret (.bool !k))) s') E s) :
    wpAny (model prog w) A (Builtin.«object.__ne__» ⟨[.ref x, b], []⟩) Q E s := by
  unfold Builtin.«object.__ne__»
  refine wpAny_bind (wpAny_of_eq (a := (.ref x, [b])) (by kernel_rfl) ?_)
  refine wpAny_bind (wpAny_cRoomFor hu ?_)
  refine wpAny_bind (ifBound_K X I hs hf (wpAny_mono h (fun v s' z => ?_) fun _ _ e => e))
  obtain ⟨k, rfl, q⟩ := z
  exact wpAny_bind (wpAny_truthy_bool (wpAny_pure q))
theorem ne_K {Q : Value → Shared → Prop} (hu : A.units + 1 < cLine) (F : Fr h₀ L s.heap m) (X₀ : K.In h₀) (I : InstAt s.heap x ox C od) (hb : Looks (model prog w) s.heap (typeOf b) tb) (hn : notFirst K C tb = true)
    (hne : findIn K (.ref C) "__ne__" = some (some (.builtin "object.__ne__"))) (hm : mroIn K C (.type "object") = some true) (hs : findIn K (.ref C) "__eq__" = some (some (.ref f))) (hf : isFn K (.ref f) = true)
    (h : wpAny (model prog w) A.in1 (call (.ref f) [.ref x, b]) (fun v s' => ∃ k, v = .bool k ∧ Q (.bool !k) s') E s) : wpAny (model prog w) A (richCompare .NotEq (.ref x) b) Q E s := by
  have X := X₀.keeps F.keep
  have sub : Looks (model prog w) s.heap (isInstance (.ref x) (.type "object")) true := I.type.andThen (looks_mroIn X hm)
  have one : wpAny (model prog w) A (tryCompare (.ref x) "__ne__" b) (fun r s' => ∃ v, r = some v ∧ Q v s') E s := by
    have run : wpAny (model prog w) A (call (.builtin "object.__ne__") ([.ref x] ++ [b])) (fun v s' => ∃ k, v = .bool k ∧ Q v s') E s := by
      refine wpAny_call (codeAny_call_builtin PySem.F.cmp_object.ne.plain PySem.F.cmpEntry_ne (check_slot PySem.F.cmpKind_ne PySem.F.cmpSplit_ne sub (PySem.F.cmpArgs_ne _ _) ?_))
      refine ne_entry (A := A.in1) hu X I hs hf (wpAny_mono h (fun v s' z => ?_) fun _ _ e => e)
      obtain ⟨k, rfl, q⟩ := z
      exact ⟨k, rfl, _, rfl, q⟩
    unfold tryCompare
    refine wpAny_bind ?_
    simp only [callSpecialIfBound?, bindSpecialIfBound?]
    refine wpAny_holding (wpAny_bind (wpAny_bind (wpAny_bind (I.type.here ((looks_findIn X hne).here ?_)))))
    refine wpAny_bind (wpAny_askSetting (wpAny_ite ?_))
    have fin : wpAny (model prog w) A (call (.builtin "object.__ne__") ([.ref x] ++ [b]) >>= fun v => pure (some v)) (fun r s' => wpAny (model prog w) A (match r with | some .notImplemented | none => pure none | some v => pure (some v)) (fun r s' => ∃ v, r = some v ∧ Q v s') E s') E s := by
      refine wpAny_bind (wpAny_mono run (fun v s' h' => wpAny_pure ?_) fun _ _ h' => h')
      obtain ⟨k, rfl, q⟩ := h'
      exact wpAny_pure ⟨_, rfl, q⟩
    split
    · rw [PySem.F.cmp_object.ne.bind]
      exact wpAny_bind (wpAny_pure (wpAny_pure (by exact fin)))
    · rw [PySem.F.cmp_object.ne.bind]
      exact wpAny_tryCatch (wpAny_bind (wpAny_pure (wpAny_pure (by exact fin))))
  unfold richCompare
  simp only [oneThing_ref]
  refine wpAny_holding (wpAny_bind (wpAny_cRoomFor (Nat.lt_of_succ_lt hu) ?_))
  refine wpAny_bind (I.type.here (wpAny_bind (hb.here ?_)))
  split
  · rename_i q
    have e : subIn K tb (.ref C) = some false := by
      rcases Bool.or_eq_true_iff.mp hn with e | e
      · rw [beq_iff_eq.mp e] at q; simp at q
      · exact beq_iff_eq.mp e
    refine wpAny_bind ((looks_subIn X e).here ?_)
    simp only [Bool.false_eq_true, if_false]
    refine wpAny_bind (wpAny_mono one (fun r s' z => ?_) fun _ _ e => e)
    obtain ⟨v, rfl, hq⟩ := z
    exact wpAny_pure hq
  · refine wpAny_bind (wpAny_pure ?_)
    simp only [Bool.false_eq_true, if_false]
    refine wpAny_bind (wpAny_mono one (fun r s' z => ?_) fun _ _ e => e)
    obtain ⟨v, rfl, hq⟩ := z
    exact wpAny_pure hq
end

section
variable {X : Cx} {p : Par} {a b o e : Expr} {es : List Expr} {fa fb : CE} {ta tb : TE} {k : CA} {pos : Pos} {c kk : Nat} {m : Str} {mi : Mir}
def oNeOwn (c : Nat) (m : Mir) : Aop := fun S x y => if isI c x && isI c y && frzd x && frzd y then (m S [x, y]).bind fun r S1 => (asB r S1).bind fun b S2 => .ok ⟨.frz, .bl (!b)⟩ S2 else .stuck
def rNe2 (g : Gx) (W : WX) (c : Nat) (m : Mir) : L2.St → R2 := fun σ x y H Q => ∃ a dx vs b dy ws, x = .ref a ∧ y = .ref b ∧ Slt H a (g.cs c) dx vs ∧ Slt H b (g.cs c) dy ws ∧ spOf g 2 m [x, y] H (fun v H' => ∃ k, v = .bl k ∧ Q (.bl (!k)) H') (WE W σ)
theorem opas_ne {c : Nat} {m : Mir} : OpAS p (rNe2 p.g p.W c m) (oNeOwn c m) := by
  intro cc F1 μ1 S1 H1 F μ S ρ σ H x y v w Q C1 C xx r1 r2 q
  unfold oNeOwn at q
  split at q
  · rename_i h
    simp only [Bool.and_eq_true] at h
    obtain ⟨⟨⟨h1, h2⟩, h3⟩, h4⟩ := h
    obtain ⟨ts, e1⟩ := isI_ok h1
    obtain ⟨us, e2⟩ := isI_ok h2
    obtain ⟨a, dx, vs, rfl, s1, _⟩ := r1.inst C.sub e1
    obtain ⟨b, dy, ws, rfl, s2, _⟩ := r2.inst C.sub e2
    refine ⟨a, dx, _, b, dy, _, rfl, rfl, s1, s2, call_of (ρ := ρ) C (fun r hr => ?_) (rel2 r1 r2) rfl ?_⟩
    · have k1 : x.k = .frz := of_decide_eq_true h3
      have k2 : y.k = .frz := of_decide_eq_true h4
      rcases List.mem_cons.mp hr with rfl | hr
      · rw [k1]; exact fun z => nomatch z
      · rcases List.mem_cons.mp hr with rfl | hr
        · rw [k2]; exact fun z => nomatch z
        · cases hr
    · cases e : m S [x, y] with
      | ok r S' =>
        rw [e] at q
        intro v' F' μ' H' C' x' rr
        have q' := PostG.step (rsR _) C' x' (show PostG p (RelR p.g) cc σ ρ F μ H ((asB r S').bind fun b S2 => .ok ⟨.frz, .bl (!b)⟩ S2) Q from q)
        obtain ⟨b, rfl, q2⟩ := asB_ok rr q'
        exact ⟨b, rfl, q2 _ F' μ' H' C' (Ext.refl _ _ _) rfl⟩
      | err z S' => rw [e] at q; exact q
      | stuck => rw [e] at q; exact q
  · exact q.elim
/-- a class whose != is the plain one -/
structure NeC (g : Gx) (c : Nat) : Prop where
  ne : PySem.W.findIn g.K (.ref (g.cs c)) "__ne__" = some (some (.builtin "object.__ne__"))
  mro : PySem.W.mroIn g.K (g.cs c) (.type "object") = some true
theorem opA_ne (hK : X.K = p.g.K) (oc : OwnC p.g c) (nc : NeC p.g c) (h : HasM X.prog X.w p.g X.mg X.base c "__eq__" kk 2 mi) (hr : Room (kk + 1) X.A) (tk : Takes X p.W) : OpA X (compareOp .NotEq) (rNe2 p.g p.W c mi) := by
  intro pins s σ H x y v u Q I rx ry q
  obtain ⟨a, dx, vs, b, dy, ws, rfl, rfl, ha, hb, q⟩ := q
  cases (show v = Value.ref a from rx)
  cases (show u = Value.ref b from ry)
  obtain ⟨sl, od, _, J, _⟩ := slt_inst I ha
  obtain ⟨sl', od', _, J', _⟩ := slt_inst I hb
  obtain ⟨m, hF⟩ := I.fr
  obtain ⟨f, hs, hf, _, F⟩ := h.ex
  rw [← hK] at hs hf F
  have hr1 : Room kk X.A.in1 := Room.in1 hr
  refine ne_K (by have := hr1.units0; exact this) hF I.ok.mod.kin J J'.type (by rw [hK]; exact oc.nf) (by rw [hK]; exact nc.ne) (by rw [hK]; exact nc.mro) hs hf ?_
  refine wpAny_mono (wpAny_call (run_atA (us := [.ref a, .ref b]) (ws := [.ref a, .ref b]) F hr1 I.env0.in1 (passAt tk σ) I (.cons rfl (.cons rfl .nil)) q)) (fun w s' z => ?_) fun _ _ x => x
  obtain ⟨z', H', I', rz, k, rfl, qz⟩ := z
  cases rz
  exact ⟨k, rfl, .bl (!k), H', I', rfl, qz⟩
theorem e_neOwn (hK : X.K = p.g.K) (oc : OwnC p.g c) (nc : NeC p.g c) (h : HasM X.prog X.w p.g X.mg X.base c "__eq__" kk 2 mi) (hr : Room (kk + 1) X.A) (tk : Takes X p.W) (ha : EE X p a fa) (hb : EE X p b fb) (hm : behindInMarks .NotEq b = false := by first | exact nomark _ | with_unfolding_all rfl) : EE X p (.Compare a [.NotEq] [b] pos) (cOpA (oNeOwn c mi) fa fb) :=
  e_cmpA (opA_ne hK oc nc h hr tk) opas_ne ha hb hm
theorem b_neOwn (hK : X.K = p.g.K) (oc : OwnC p.g c) (nc : NeC p.g c) (h : HasM X.prog X.w p.g X.mg X.base c "__eq__" kk 2 mi) (hr : Room (kk + 1) X.A) (tk : Takes X p.W) (ha : EE X p a fa) (hb : EE X p b fb) (hm : behindInMarks .NotEq b = false := by first | exact nomark _ | with_unfolding_all rfl) : EB' X p (.Compare a [.NotEq] [b] pos) (cAsB (cOpA (oNeOwn c mi) fa fb)) :=
  b_cmpA (opA_ne hK oc nc h hr tk) opas_ne ha hb hm
/-! ### a method of an own class with slots -/
theorem pe_methA {C g : Addr} {sp : Sp} {E : L2.St → XK} {t : TA} {apos : Pos} {pl : Sem Bool} (he : PE X o ta) (cl : SCls X.K C) (hm : Meth X.K C m g) (F : FnR X.prog X.w X.K X.mg X.base (L2.CX X.prog X.w) kk g sp) (hr : Room kk X.A) (hx : ∀ σ, PassesAt (L2.CX X.prog X.w) X σ (E σ)) (ha : PA X (e :: es) t)
    (hst : starEach (e :: es) X.env = (false, eval e X.env) :: starEach es X.env := by rfl) (hpl : (backTo pos (starEach es X.env)).any (·.1) = false := by rfl)
    (ht : eval (.Call (.Attribute o m apos) (e :: es) [] pos) X.env = (do
      let ov ← eval o X.env
      standAt apos.atName
      let (f, first) ← holding [ov] (getMethod ov m pl)
      callWith pos f first (backTo pos (starEach (e :: es) X.env)) (backToKw pos (keywordEach [] X.env))) := by rfl) :
    PE X (.Call (.Attribute o m apos) (e :: es) [] pos) (fun σ H Q => ta σ H fun x H1 => ∃ a dx vs, x = .ref a ∧ Slt H1 a C dx vs ∧ t σ H1 fun ws H2 => sp (x :: ws) H2 Q (E σ)) := by
  refine ⟨fun pins s σ H Q I h => ?_⟩
  refine PySem.W.methodCall_KW (pl := pl) (thn (he.run pins s σ H _ I h) fun u s1 z => ?_) ht
  obtain ⟨x, H1, I1, rx, a, dx, vs, ex, hsl, q⟩ := z
  subst ex
  obtain rfl : u = Value.ref a := rx
  refine getmethsl_ok I1 hsl cl hm (PySem.W.callWith_K (first := [.ref a]) (h₀ := X.base) I.ok.mod.kin hm.kp (thn (ha.run pos pins s1 σ H1 _ I1 q) fun us s2 z => ?_) hst hpl)
  obtain ⟨ws, H2, I2, r, q2⟩ := z
  exact ⟨I2.kIn, wp_fnA (us := .ref a :: us) (vs := .ref a :: ws) F hr (hx σ) I2 (.cons rfl r) q2⟩
theorem pe_methA0 {C g : Addr} {sp : Sp} {E : L2.St → XK} {apos : Pos} {pl : Sem Bool} (he : PE X o ta) (cl : SCls X.K C) (hm : Meth X.K C m g) (F : FnR X.prog X.w X.K X.mg X.base (L2.CX X.prog X.w) kk g sp) (hr : Room kk X.A) (hx : ∀ σ, PassesAt (L2.CX X.prog X.w) X σ (E σ))
    (ht : eval (.Call (.Attribute o m apos) [] [] pos) X.env = (do
      let ov ← eval o X.env
      standAt apos.atName
      let (f, first) ← holding [ov] (getMethod ov m pl)
      callWith pos f first (backTo pos (starEach [] X.env)) (backToKw pos (keywordEach [] X.env))) := by rfl) :
    PE X (.Call (.Attribute o m apos) [] [] pos) (fun σ H Q => ta σ H fun x H1 => ∃ a dx vs, x = .ref a ∧ Slt H1 a C dx vs ∧ sp [x] H1 Q (E σ)) := by
  refine ⟨fun pins s σ H Q I h => ?_⟩
  refine PySem.W.methodCall_KW (pl := pl) (thn (he.run pins s σ H _ I h) fun u s1 z => ?_) ht
  obtain ⟨x, H1, I1, rx, a, dx, vs, ex, hsl, q⟩ := z
  subst ex
  obtain rfl : u = Value.ref a := rx
  exact getmethsl_ok I1 hsl cl hm (PySem.W.callWith_K0 (first := [.ref a]) I1.kIn hm.kp (wp_fnA (us := [.ref a]) (vs := [.ref a]) F hr (hx σ) I1 (.cons rfl .nil) q))
def cMth (c : Nat) (m : Mir) (fa : CE) (k : CA) : CE := fun S ρ => (fa S ρ).bind fun x S1 => if isI c x && frzd x then (k S1 ρ).bind fun ys S2 => m S2 (x :: ys) else .stuck
theorem e_mth {apos : Pos} {n na : Nat} (hK : X.K = p.g.K) (oc : SCls p.g.K (p.g.cs c)) (h : HasM X.prog X.w p.g X.mg X.base c m kk n mi) (hr : Room kk X.A) (tk : Takes X p.W) (ho : EE X p o fa) (ha : EA X p (e :: es) k) (ag : Ags na k) (hl : na + 1 = n)
    (hst : starEach (e :: es) X.env = (false, eval e X.env) :: starEach es X.env := by rfl) (hpl : (backTo pos (starEach es X.env)).any (·.1) = false := by rfl) {pl : Sem Bool}
    (ht : eval (.Call (.Attribute o m apos) (e :: es) [] pos) X.env = (do
      let ov ← eval o X.env
      standAt apos.atName
      let (f, first) ← holding [ov] (getMethod ov m pl)
      callWith pos f first (backTo pos (starEach (e :: es) X.env)) (backToKw pos (keywordEach [] X.env))) := by rfl) :
    EE X p (.Call (.Attribute o m apos) (e :: es) [] pos) (cMth c mi fa k) := by
  obtain ⟨f, hs, hf, kp, F⟩ := h.ex
  rw [← hK] at hs hf F kp oc
  refine PE.imp (pe_methA (E := WE p.W) (pl := pl) ho oc ⟨hs, hf, kp⟩ F hr (fun σ => passAt tk σ) ha hst hpl ht) fun σ H Q hh => ?_
  obtain ⟨cc, F0, μ, S, ρ, C, q⟩ := hh
  refine tG.bind (rsR _) C q fun x S1 v F1 μ1 H1 C1 x1 r1 q1 _ => ?_
  split at q1
  · rename_i hi
    simp only [Bool.and_eq_true] at hi
    obtain ⟨ts, e1⟩ := isI_ok hi.1
    have kx : x.k = .frz := of_decide_eq_true hi.2
    obtain ⟨a, dx, vs, rfl, s1, _⟩ := r1.inst C1.sub e1
    refine ⟨a, dx, _, rfl, s1, cc, F1, μ1, S1, ρ, C1, ?_⟩
    cases ek : k S1 ρ with
    | err y S2 => rw [ek] at q1; exact q1
    | stuck => rw [ek] at q1; exact q1
    | ok rs S2 =>
      rw [ek] at q1
      intro ws F2 μ2 H2 C2 x2 r2
      have q2 := PostG.step (rsR _) C2 x2 (show PostG p (RelR p.g) cc σ ρ F1 μ1 H1 (mi S2 (x :: rs)) Q from q1)
      have r1' := (r1.mono C1.st x2).any (Hs' := H1) (by rw [kx]; exact fun z => nomatch z)
      refine call_of C2 (fun r hr => ?_) (.cons r1' r2) ?_ q2
      · rcases List.mem_cons.mp hr with rfl | hr
        · rw [kx]; exact fun z => nomatch z
        · exact ag.nf _ _ _ _ ek r hr
      · rw [List.length_cons, ← Paired.length r2, ag.len _ _ _ _ ek, hl]
  · exact q1.elim
end

/-! ### rows of numbers, compared -/
def intsT : List T → Option (List Int)
  | [] => some []
  | .int i :: r => (intsT r).map (i :: ·)
  | _ => none
theorem ints_fz {g : Gx} {F μ} : ∀ {ts : List T} {ns : List Int} {vs : List V}, intsT ts = some ns → FzL g F μ ts vs → vs = ns.map V.int
  | [], ns, vs, e, h => by
    cases e
    exact (show vs = [] from h)
  | t :: ts, ns, vs, e, h => by
    obtain ⟨v, r, rfl, a, b⟩ := h
    cases t with
    | int i =>
      obtain ⟨l, e1, rfl⟩ := Option.map_eq_some_iff.mp (show (intsT ts).map (i :: ·) = some ns from e)
      cases (show v = .int i from a)
      rw [ints_fz e1 b]
      rfl
    | _ => cases e
def oTT (f : List Int → List Int → Bool) : Bop := fun x y => match x, y with
  | .tup ts, .tup us => match intsT ts, intsT us with
    | some ns, some ms => some ⟨.frz, .bl (f ns ms)⟩
    | _, _ => none
  | _, _ => none
theorem ops_TT {g : Gx} {f : List Int → List Int → Bool} : OpS g (fun x y H Q => ∃ (a b : Addr) (ns ms : List Int), x = .ref a ∧ y = .ref b ∧ SqT g.K H a (ns.map V.int) ∧ SqT g.K H b (ms.map V.int) ∧ Q (.bl (f ns ms)) H) (oTT f) := by
  intro c0 F1 μ1 S1 H1 F μ S ρ σ H x y z v w Q C1 C2 xx r1 r2 e k
  unfold oTT at e
  split at e
  · rename_i ts us e1 e2
    split at e
    · rename_i ns ms h1 h2
      cases e
      have g1 := r1.flat (by rw [e1]; intro _ z; cases z) (by rw [e1]; intro _ z; cases z) (by rw [e1]; intro _ z; cases z)
      have g2 := r2.flat (by rw [e2]; intro _ z; cases z) (by rw [e2]; intro _ z; cases z) (by rw [e2]; intro _ z; cases z)
      rw [e1] at g1
      rw [e2] at g2
      obtain ⟨a, vs, rfl, q1, z1⟩ := g1
      obtain ⟨b, ws, rfl, q2, z2⟩ := g2
      rw [ints_fz h1 z1] at q1
      rw [ints_fz h2 z2] at q2
      exact ⟨a, b, ns, ms, rfl, rfl, sqT_sub C2.sub q1, sqT_sub C2.sub q2, k _ F μ H C2 (Ext.refl _ _ _) rfl⟩
    · cases e
  · cases e
def leL (ns ms : List Int) : Bool := Ob.lexAt (fun j => decide (ns.getD j 0 = ms.getD j 0)) (fun j => decide (ns.getD j 0 ≤ ms.getD j 0)) (decide (ns.length ≤ ms.length)) 0 (min ns.length ms.length)
def oLtT : Bop := oTT HT.lexLt
def oLeT : Bop := oTT leL
theorem ops_ltT {g : Gx} : OpS g (rLtT g.K) oLtT := ops_TT
theorem ops_leT {g : Gx} : OpS g (rLeT g.K) oLeT := ops_TT
theorem leL2 {a b c d : Int} : leL [a, b] [c, d] = if a = c then decide (b ≤ d) else decide (a ≤ c) := by
  show (if decide (a = c) = true then (if decide (b = d) = true then decide (2 ≤ 2) else decide (b ≤ d)) else decide (a ≤ c)) = _
  by_cases h : a = c
  · by_cases h1 : b = d
    · simp [h, h1]
    · simp [h, h1]
  · simp [h]
theorem ltL2 {a b c d : Int} : HT.lexLt [a, b] [c, d] = if a = c then decide (b < d) else decide (a < c) := by
  show (if a = c then (if b = d then HT.lexLt [] [] else decide (b < d)) else decide (a < c)) = _
  by_cases h : a = c
  · by_cases h1 : b = d
    · simp [h, h1, HT.lexLt]
    · simp [h, h1]
  · simp [h]
end EV

namespace EV
open PySem PySem.Spec PyProof.Rows L2
section
variable {S : Store} {ρ : List Sl} {i : Nat} {t : T} {fa fb fc : CE} {k : CA} {o o' : Bop} {ga gb : CB} {f g : CS} {x y : R}
@[simp] theorem z_var : cVar i S ρ = match ρ[i]? with | some (.val t) => .ok ⟨.frz, t⟩ S | some (.own t) => .ok ⟨.place, t⟩ S | some (.bor t) => .ok ⟨.place, t⟩ S | _ => .stuck := rfl
@[simp] theorem z_c : cC t S ρ = .ok ⟨.frz, t⟩ S := rfl
@[simp] theorem z_op : cOp o fa fb S ρ = (fa S ρ).bind fun x S1 => (fb S1 ρ).bind fun y S2 => bopR o x y S2 := rfl
@[simp] theorem z_bop : bopR o x y S = match o x.t y.t with | some r => .ok r S | none => .stuck := rfl
@[simp] theorem z_nil : cNil S ρ = .ok [] S := rfl
@[simp] theorem z_cons : cCons fa k S ρ = (fa S ρ).bind fun x S1 => (k S1 ρ).bind fun xs S2 => .ok (x.settle :: xs) S2 := rfl
@[simp] theorem z_settle1 : R.settle ⟨.frz, t⟩ = ⟨.frz, t⟩ := rfl
@[simp] theorem z_settle2 : R.settle ⟨.fresh, t⟩ = ⟨.frz, t⟩ := rfl
@[simp] theorem z_settle3 : R.settle ⟨.place, t⟩ = ⟨.place, t⟩ := rfl
@[simp] theorem z_tup : cTup k S ρ = (k S ρ).bind mkTup := rfl
@[simp] theorem z_lst : cLst k S ρ = (k S ρ).bind mkLst := rfl
@[simp] theorem z_allF0 : allF [] = some [] := rfl
@[simp] theorem z_allF1 {rs : List R} : allF (⟨.frz, t⟩ :: rs) = (allF rs).map (t :: ·) := by
  show (match Kd.frz, allF rs with | .frz, some ts => some (t :: ts) | _, _ => none) = _
  cases allF rs <;> rfl
@[simp] theorem z_mkTup {rs : List R} : mkTup rs S = match allF rs with | some ts => if ts.length ≤ sizeLine then .ok ⟨.frz, .tup ts⟩ S else .stuck | none => .stuck := rfl
@[simp] theorem z_mkLst {rs : List R} : mkLst rs S = match allF rs with | some ts => if ts.length ≤ sizeLine then .ok ⟨.fresh, .lst ts⟩ S else .stuck | none => .stuck := rfl
@[simp] theorem z_bcl {o : Bcl} : cBcl o k S ρ = (k S ρ).bind (bclR o) := rfl
@[simp] theorem z_bclR {o : Bcl} {xs : List R} : bclR o xs S = match o (xs.map R.t) with | some r => .ok r S | none => .stuck := rfl
@[simp] theorem z_chain : cChain o o' fa fb fc S ρ = (fa S ρ).bind fun x S1 => (fb S1 ρ).bind fun y S2 => (bopR o x y S2).bind fun z S3 => (asB z S3).bind fun b S4 => if b = true then (fc S4 ρ).bind fun w S5 => bopR o' y w S5 else .ok ⟨.frz, .bl false⟩ S4 := rfl
@[simp] theorem z_asB {kd b} : asB ⟨kd, .bl b⟩ S = .ok b S := rfl
@[simp] theorem z_cAsB : cAsB fa S ρ = (fa S ρ).bind asB := rfl
@[simp] theorem z_un {u : Uop} : cUn u fa S ρ = (fa S ρ).bind (uopR u) := rfl
@[simp] theorem z_uop {u : Uop} : uopR u x S = match u x.t with | some r => .ok r S | none => .stuck := rfl
@[simp] theorem z_tru : cTru fa S ρ = (fa S ρ).bind truR := rfl
@[simp] theorem z_truR : truR x S = match truT x.t with | some b => .ok b S | none => .stuck := rfl
@[simp] theorem z_and : cAnd ga gb S ρ = (ga S ρ).bind fun b S1 => if b = true then gb S1 ρ else .ok false S1 := rfl
@[simp] theorem z_or : cOr ga gb S ρ = (ga S ρ).bind fun b S1 => if b = true then .ok true S1 else gb S1 ρ := rfl
@[simp] theorem z_not : cNot ga S ρ = (ga S ρ).bind fun b S1 => .ok (!b) S1 := rfl
@[simp] theorem z_B : cB ga S ρ = (ga S ρ).bind fun b S1 => .ok ⟨.frz, .bl b⟩ S1 := rfl
@[simp] theorem z_andV : cAndV fa fb S ρ = (fa S ρ).bind fun r S1 => (asB r S1).bind fun b S2 => if b = true then fb S2 ρ else .ok ⟨.frz, .bl false⟩ S2 := rfl
@[simp] theorem z_orV : cOrV fa fb S ρ = (fa S ρ).bind fun r S1 => (asB r S1).bind fun b S2 => if b = true then .ok ⟨.frz, .bl true⟩ S2 else fb S2 ρ := rfl
@[simp] theorem z_notV : cNotV fa S ρ = (fa S ρ).bind fun r S1 => (asB r S1).bind fun b S2 => .ok ⟨.frz, .bl (!b)⟩ S2 := rfl
@[simp] theorem z_if : cIf ga fa fb S ρ = (ga S ρ).bind fun b S1 => if b = true then fa S1 ρ else fb S1 ρ := rfl
@[simp] theorem z_call {m : Mir} {dv : List T} : cCall m dv k S ρ = (k S ρ).bind fun rs S1 => m S1 (rs ++ dv.map fun t => ⟨.frz, t⟩) := rfl
@[simp] theorem z_opA {o : Aop} : cOpA o fa fb S ρ = (fa S ρ).bind fun x S1 => (fb S1 ρ).bind fun y S2 => o S2 x y := rfl
@[simp] theorem z_iv : cIv k S ρ = (k S ρ).bind mkIv := rfl
def sltU (c i : Nat) : Uop := fun t => match t with | .inst d ts => if d = c then (ts[i]?).map fun t => ⟨.frz, t⟩ else none | _ => none
@[simp] theorem z_slt {c : Nat} : cSlt c i fa S ρ = (fa S ρ).bind (uopR (sltU c i)) := rfl
@[simp] theorem y_slt {c i d : Nat} {ts : List T} : sltU c i (.inst d ts) = if d = c then (ts[i]?).map fun t => ⟨.frz, t⟩ else none := rfl
@[simp] theorem y_slt0 {i j : Int} : sltU kInterval 0 (ivT i j) = some ⟨.frz, .int (ivS i j)⟩ := rfl
@[simp] theorem y_slt1 {i j : Int} : sltU kInterval 1 (ivT i j) = some ⟨.frz, .int (ivE i j)⟩ := rfl
@[simp] theorem y_isIiv {i j : Int} : oIsI kInterval (ivT i j) = some ⟨.frz, .bl true⟩ := rfl
@[simp] theorem z_truO {m : Mir} {c : Nat} : cTruO m c fa S ρ = (fa S ρ).bind fun x S1 => if isI c x && frzd x then (m S1 [x]).bind asB else .stuck := rfl
@[simp] theorem z_frzd {kd} : frzd ⟨kd, t⟩ = decide (kd = Kd.frz) := rfl
@[simp] theorem z_body {n : Nat} {rs : List R} : bodyM n f S rs = endM (f S (inρ n rs)) := rfl
@[simp] theorem z_end1 : endM (.rt x S) = .ok x S := rfl
@[simp] theorem z_end2 : endM (.nx S ρ) = .ok ⟨.frz, .non⟩ S := rfl
@[simp] theorem z_end3 {e} : endM (.err e S ρ) = .err e S := rfl
@[simp] theorem z_in0 {n : Nat} : inρ n [] = List.replicate n .no := rfl
@[simp] theorem z_in1 {n : Nat} {rs : List R} {kd} : inρ (n + 1) (⟨kd, t⟩ :: rs) = (match kd with | .frz => .val t | _ => .bor t) :: inρ n rs := by
  cases kd <;> (unfold inρ; simp [slIn])
@[simp] theorem z_seq : sSeq f g S ρ = seqK g (f S ρ) := rfl
@[simp] theorem z_seq1 : seqK g (.nx S ρ) = g S ρ := rfl
@[simp] theorem z_seq2 : seqK g (.rt x S) = .rt x S := rfl
@[simp] theorem z_seq3 : seqK g (.bk S ρ) = .bk S ρ := rfl
@[simp] theorem z_seq4 : seqK g (.ct S ρ) = .ct S ρ := rfl
@[simp] theorem z_seq5 {e} : seqK g (.err e S ρ) = .err e S ρ := rfl
@[simp] theorem z_next : sNext S ρ = .nx S ρ := rfl
@[simp] theorem z_sif : sIf ga f g S ρ = onR (ga S ρ) ρ fun b S1 => if b = true then f S1 ρ else g S1 ρ := rfl
@[simp] theorem z_ret : sRet fa S ρ = onR (fa S ρ) ρ fun r S1 => match r.k with | .place => .stuck | _ => .rt r S1 := rfl
@[simp] theorem z_retN : sRetN S ρ = .rt ⟨.frz, .non⟩ S := rfl
@[simp] theorem z_retV : sRetV i S ρ = match ρ[i]? with | some (.val t) => .rt ⟨.frz, t⟩ S | some (.own t) => .rt ⟨.fresh, t⟩ S | _ => .stuck := rfl
@[simp] theorem z_expr : sExpr fa S ρ = onR (fa S ρ) ρ fun _ S1 => .nx S1 ρ := rfl
@[simp] theorem z_set : sSet i fa S ρ = onR (fa S ρ) ρ (setK i ρ) := rfl
@[simp] theorem z_setK {kd} : setK i ρ ⟨kd, t⟩ S = match kd with | .frz => .nx S (ρ.set i (.val t)) | .fresh => .nx S (ρ.set i (.own t)) | .place => .stuck := by cases kd <;> rfl
@[simp] theorem z_for {fi : CI} {ft : Tgt} : sFor fi ft f S ρ = onR (fi S ρ) ρ fun bt S1 => if bt.1 = true then forL ft f bt.2 S1 ρ else .stuck := rfl
@[simp] theorem z_seqI : cSeqI fa S ρ = (fa S ρ).bind seqI := rfl
@[simp] theorem z_rng1 : cRng1 k S ρ = (k S ρ).bind rng1I := rfl
@[simp] theorem z_rng2 : cRng2 k S ρ = (k S ρ).bind rng2I := rfl
@[simp] theorem z_gnm : gNm i t ρ = some (ρ.set i (.val t)) := rfl
@[simp] theorem z_kept1 : R.kept ⟨.frz, t⟩ = some t := rfl
@[simp] theorem z_kept2 : R.kept ⟨.fresh, t⟩ = some t := rfl
@[simp] theorem z_kept3 : R.kept ⟨.place, t⟩ = none := rfl
@[simp] theorem z_forL0 {ft : Tgt} : forL ft f [] S ρ = .nx S ρ := rfl
theorem z_forL1 {ft : Tgt} {ts} : forL ft f (t :: ts) S ρ = match ft t ρ with | none => .stuck | some ρ1 => loopK (fun ρ' S' => forL ft f ts S' ρ') (f S ρ1) := rfl
@[simp] theorem z_loop1 {h : List Sl → Store → Fl} : loopK h (.nx S ρ) = h ρ S := rfl
@[simp] theorem z_loop2 {h : List Sl → Store → Fl} : loopK h (.ct S ρ) = h ρ S := rfl
@[simp] theorem z_loop3 {h : List Sl → Store → Fl} : loopK h (.bk S ρ) = .nx S ρ := rfl
@[simp] theorem z_loop4 {h : List Sl → Store → Fl} : loopK h (.rt x S) = .rt x S := rfl
@[simp] theorem z_size {n : Nat} : (n ≤ sizeLine) = (n ≤ 16777216) := by rw [sizeLine_eq]
end
section
variable {i j : Int} {b : Bool} {s s' : Str} {ts us : List T} {ns : List Int} {t : T}
@[simp] theorem y_int1 : oInt [.int i] = some ⟨.frz, .int i⟩ := rfl
@[simp] theorem y_int2 : oInt [.bl b] = some ⟨.frz, .int (if b then 1 else 0)⟩ := rfl
@[simp] theorem y_bool1 : oBool [.int i] = some ⟨.frz, .bl (i != 0)⟩ := rfl
@[simp] theorem y_bool2 : oBool [.bl b] = some ⟨.frz, .bl b⟩ := rfl
@[simp] theorem y_len1 : oLen [.lst ts] = some ⟨.frz, .int ts.length⟩ := rfl
@[simp] theorem y_len2 : oLen [.tup ts] = some ⟨.frz, .int ts.length⟩ := rfl
@[simp] theorem y_len3 : oLen [.scr ns] = some ⟨.frz, .int ns.length⟩ := rfl
@[simp] theorem y_len4 : oLen [.str s] = if s.length ≤ sizeLine then some ⟨.frz, .int s.length⟩ else none := rfl
@[simp] theorem y_max : oMax2 [.int i, .int j] = some ⟨.frz, .int (if j > i then j else i)⟩ := rfl
@[simp] theorem y_min : oMin2 [.int i, .int j] = some ⟨.frz, .int (if j < i then j else i)⟩ := rfl
@[simp] theorem y_lt : oLt (.int i) (.int j) = some ⟨.frz, .bl (decide (i < j))⟩ := rfl
@[simp] theorem y_le : oLe (.int i) (.int j) = some ⟨.frz, .bl (decide (i ≤ j))⟩ := rfl
@[simp] theorem y_gt : oGt (.int i) (.int j) = some ⟨.frz, .bl (decide (j < i))⟩ := rfl
@[simp] theorem y_ge : oGe (.int i) (.int j) = some ⟨.frz, .bl (decide (j ≤ i))⟩ := rfl
@[simp] theorem y_sub : oSub (.int i) (.int j) = some ⟨.frz, .int (i - j)⟩ := rfl
@[simp] theorem y_add : oAdd (.int i) (.int j) = some ⟨.frz, .int (i + j)⟩ := rfl
@[simp] theorem y_addS : oAdd (.str s) (.str s') = if s.length + s'.length ≤ sizeLine then some ⟨.frz, .str (s ++ s')⟩ else none := rfl
@[simp] theorem y_addT : oAdd (.tup ts) (.tup us) = if ts.length + us.length ≤ sizeLine then some ⟨.frz, .tup (ts ++ us)⟩ else none := rfl
@[simp] theorem y_addL : oAdd (.lst ts) (.lst us) = if ts.length + us.length ≤ sizeLine then some ⟨.fresh, .lst (ts ++ us)⟩ else none := rfl
@[simp] theorem y_neg : oNeg (.int i) = some ⟨.frz, .int (-i)⟩ := rfl
theorem y_fd (h : 0 < j) (h2 : j < 1073741824) : oFd (.int i) (.int j) = some ⟨.frz, .int (i / j)⟩ := by
  show (if (decide (j ≠ 0) && decide (j.natAbs < 1073741824)) = true then some (⟨.frz, .int (i.fdiv j)⟩ : R) else none) = _
  rw [if_pos (by simp; omega), Int.fdiv_eq_ediv_of_nonneg _ (by omega)]
theorem y_mod (h : 0 < j) : oMod (.int i) (.int j) = some ⟨.frz, .int (i % j)⟩ := by
  show (if (decide (j ≠ 0)) = true then some (⟨.frz, .int (i.fmod j)⟩ : R) else none) = _
  rw [if_pos (by simp; omega), Int.fmod_eq_emod_of_nonneg _ (by omega)]
theorem y_pow (h1 : 0 ≤ j) (h2 : j ≤ 1000000) (h3 : i.natAbs < 2 ^ 64) : oPow (.int i) (.int j) = some ⟨.frz, .int (i ^ j.toNat)⟩ := by
  show (if (decide (0 ≤ j) && decide (j ≤ 1000000) && decide (i.natAbs < 2 ^ 64)) = true then some (⟨.frz, .int (i ^ j.toNat)⟩ : R) else none) = _
  rw [if_pos (by simp only [Bool.and_eq_true, decide_eq_true_eq]; exact ⟨⟨h1, h2⟩, h3⟩)]
theorem y_mul (h : (-(2 ^ 64) < i ∧ i < 2 ^ 64) ∨ (-(2 ^ 64) < j ∧ j < 2 ^ 64)) : oMul (.int i) (.int j) = some ⟨.frz, .int (i * j)⟩ := by
  show (if ((decide (-(2 ^ 64) < i) && decide (i < 2 ^ 64)) || (decide (-(2 ^ 64) < j) && decide (j < 2 ^ 64))) = true then some (⟨.frz, .int (i * j)⟩ : R) else none) = _
  rw [if_pos (by simp only [Bool.and_eq_true, Bool.or_eq_true, decide_eq_true_eq]; exact h)]
@[simp] theorem y_ixT {k : Int} : oIx (.tup ts) (.int k) = (atI ts k).map fun t => ⟨.frz, t⟩ := rfl
@[simp] theorem y_ixL {k : Int} : oIx (.lst ts) (.int k) = (atI ts k).map fun t => ⟨.frz, t⟩ := rfl
@[simp] theorem y_ixS {k : Int} : oIx (.scr ns) (.int k) = (atI ns k).map fun n => ⟨.frz, .int n⟩ := rfl
theorem atI_lit {α : Type} {xs : List α} {k : Nat} : atI xs (k : Int) = xs[k]? := by
  unfold atI ixN
  rw [if_pos (by omega)]
  split
  · simp
  · rename_i h; simp; omega
theorem eqT_flat {x y : T} {d e : PyData} (h1 : toD x = some d) (h2 : toD y = some e) (s1 : SeqAt.shaped d = true) (s2 : SeqAt.shaped e = true) : eqT x y = some (PyData.eqv d e) := by
  unfold eqT; rw [h1, h2]; simp [s1, s2]
@[simp] theorem eq_int : eqT (.int i) (.int j) = some (decide (i = j)) := by
  rw [eqT_flat (d := .int i) (e := .int j) rfl rfl rfl rfl]
  show some (i == j) = _
  rw [Bool.beq_eq_decide_eq]
@[simp] theorem eq_bl {b c : Bool} : eqT (.bl b) (.bl c) = some (b == c) := by
  rw [eqT_flat (d := .bool b) (e := .bool c) rfl rfl rfl rfl]; cases b <;> cases c <;> rfl
@[simp] theorem y_eq {x y : T} : oEq x y = (eqT x y).map fun b => ⟨.frz, .bl b⟩ := rfl
@[simp] theorem y_ne {x y : T} : oNe x y = (eqT x y).map fun b => ⟨.frz, .bl (!b)⟩ := rfl
@[simp] theorem tr_bl : truT (.bl b) = some b := rfl
@[simp] theorem tr_int : truT (.int i) = some (i != 0) := rfl
@[simp] theorem tr_lst : truT (.lst ts) = some !ts.isEmpty := rfl
@[simp] theorem tr_tup : truT (.tup ts) = some !ts.isEmpty := rfl
@[simp] theorem seqI1 {kd S} : seqI ⟨kd, .lst ts⟩ S = .ok (decide (kd ≠ .place), ts) S := rfl
@[simp] theorem seqI2 {kd S} : seqI ⟨kd, .tup ts⟩ S = .ok (true, ts) S := rfl
@[simp] theorem seqI3 {kd S} : seqI ⟨kd, .scr ns⟩ S = .ok (true, ns.map .int) S := rfl
@[simp] theorem mkIv1 {k1 k2 S} : mkIv [⟨k1, .int i⟩, ⟨k2, .int j⟩] S = .ok ⟨.frz, ivT i j⟩ S := rfl
@[simp] theorem isIv {kd} : isI kInterval ⟨kd, ivT i j⟩ = true := by simp [isI, ivT]
end
section
variable {S : Store} {ρ : List Sl} {i : Nat} {t : T} {fa fb fc : CE} {k : CA} {ga gb : CB} {f g : CS} {x y : R} {ts : List T} {e : Exc} {hs : List Hd} {h : Hd} {o : Option Nat}
@[simp] theorem z_frzS : frzS i ρ = match ρ[i]? with | some (.own t) => ρ.set i (.val t) | _ => ρ := rfl
@[simp] theorem z_sFrz : sFrz i f S ρ = f S (frzS i ρ) := rfl
@[simp] theorem z_nmI : cNmI i S ρ = match ρ[i]? with | some (.val t) => seqI ⟨.frz, t⟩ S | some (.own t) => seqI ⟨.place, t⟩ S | some (.bor (.lst ts)) => .ok (true, ts) S | _ => .stuck := rfl
@[simp] theorem z_app : sApp i fa S ρ = match ρ[i]? with | some (.own (.lst ts)) => onR (fa S ρ) ρ (appK i ρ ts) | _ => .stuck := rfl
@[simp] theorem z_appK1 : appK i ρ ts ⟨.frz, t⟩ S = if ts.length < sizeLine then .nx S (ρ.set i (.own (.lst (ts ++ [t])))) else .stuck := rfl
@[simp] theorem z_appK2 : appK i ρ ts ⟨.fresh, t⟩ S = if ts.length < sizeLine then .nx S (ρ.set i (.own (.lst (ts ++ [t])))) else .stuck := rfl
@[simp] theorem z_sizeLt {n : Nat} : (n < sizeLine) = (n < 16777216) := by rw [sizeLine_eq]
@[simp] theorem z_cNo : cNo S ρ = .ok none S := rfl
@[simp] theorem z_cSo : cSo fa S ρ = (fa S ρ).bind asI := rfl
@[simp] theorem z_asI {kd} {i : Int} : asI ⟨kd, .int i⟩ S = .ok (some i) S := rfl
@[simp] theorem z_slc {lo hi : CO} : cSlc fa lo hi S ρ = (fa S ρ).bind fun r S1 => (lo S1 ρ).bind fun l S2 => (hi S2 ρ).bind fun u S3 => slcR r l u S3 := rfl
@[simp] theorem z_slcR1 {kd lo hi} : slcR ⟨kd, .lst ts⟩ lo hi S = .ok ⟨.fresh, .lst (cutT ts lo hi)⟩ S := rfl
@[simp] theorem z_slcR2 {kd lo hi} : slcR ⟨kd, .tup ts⟩ lo hi S = .ok ⟨.frz, .tup (cutT ts lo hi)⟩ S := rfl
@[simp] theorem y_list1 : oList [.lst ts] = some ⟨.fresh, .lst ts⟩ := rfl
@[simp] theorem y_list2 : oList [.tup ts] = some ⟨.fresh, .lst ts⟩ := rfl
@[simp] theorem y_tuple1 : oTuple [.lst ts] = some ⟨.frz, .tup ts⟩ := rfl
@[simp] theorem y_tuple2 : oTuple [.tup ts] = some ⟨.frz, .tup ts⟩ := rfl
@[simp] theorem z_raise {c : Nat} : sRaise c S ρ = .err ⟨c, []⟩ S ρ := rfl
@[simp] theorem z_try : sTry f hs S ρ = tryK hs (f S ρ) := rfl
@[simp] theorem z_try1 : tryK hs (.nx S ρ) = .nx S ρ := rfl
@[simp] theorem z_try2 : tryK hs (.rt x S) = .rt x S := rfl
@[simp] theorem z_try3 : tryK hs (.bk S ρ) = .bk S ρ := rfl
@[simp] theorem z_try4 : tryK hs (.ct S ρ) = .ct S ρ := rfl
@[simp] theorem z_try5 : tryK hs (.err e S ρ) = if noEx ρ = true then hdl e S ρ hs else .stuck := rfl
@[simp] theorem z_hdl0 : hdl e S ρ [] = .err e S ρ := rfl
theorem z_hdl1 : hdl e S ρ (h :: hs) = match h.m.lookup e.c with | some true => suiteK h.slot (h.f S (putE h.slot e ρ)) | some false => hdl e S ρ hs | none => .stuck := rfl
@[simp] theorem z_hdl2 {l f} : hdl e S ρ (⟨(e.c, true) :: l, o, f⟩ :: hs) = suiteK o (f S (putE o e ρ)) := by
  rw [z_hdl1]; simp [List.lookup]
@[simp] theorem z_hdl3 {l f} : hdl e S ρ (⟨(e.c, false) :: l, o, f⟩ :: hs) = hdl e S ρ hs := by
  rw [z_hdl1]; simp [List.lookup]
@[simp] theorem z_suite1 : suiteK o (.nx S ρ) = clean S (cutS o ρ) .nx := rfl
@[simp] theorem z_suite2 : suiteK o (.bk S ρ) = clean S (cutS o ρ) .bk := rfl
@[simp] theorem z_suite3 : suiteK o (.ct S ρ) = clean S (cutS o ρ) .ct := rfl
@[simp] theorem z_suite4 : suiteK o (.rt x S) = .rt x S := rfl
@[simp] theorem z_clean {k} : clean S ρ k = if noEx ρ = true then k S ρ else .stuck := rfl
@[simp] theorem z_putE0 : putE none e ρ = ρ := rfl
@[simp] theorem z_putE1 : putE (some i) e ρ = ρ.set i (.exc e) := rfl
@[simp] theorem z_cutS0 : cutS none ρ = ρ := rfl
@[simp] theorem z_cutS1 : cutS (some i) ρ = ρ.set i .no := rfl
@[simp] theorem z_noEx0 : noEx [] = true := rfl
@[simp] theorem z_noEx1 : noEx (.no :: ρ) = noEx ρ := rfl
@[simp] theorem z_noEx2 : noEx (.val t :: ρ) = noEx ρ := rfl
@[simp] theorem z_noEx3 : noEx (.own t :: ρ) = noEx ρ := rfl
@[simp] theorem z_noEx4 : noEx (.bor t :: ρ) = noEx ρ := rfl
theorem z_isE {l} : cIsE i l S ρ = match ρ[i]? with | some (.exc x) => (match l.lookup x.c, x.fs with | some b, [] => .ok ⟨.frz, .bl b⟩ S | _, _ => .stuck) | _ => .stuck := rfl
@[simp] theorem z_lc {fi : CI} {vs : List Nat} {ft : Tgt} {tb : CB} : cLc fi vs ft tb fa S ρ = (fi S ρ).bind fun bt S1 => if bt.2.length ≤ sizeLine then (compL ft tb fa (wipeS ρ vs) bt.2 S1).bind fun ys S2 => .ok ⟨.fresh, .lst ys⟩ S2 else .stuck := rfl
@[simp] theorem z_wipe0 : wipeS ρ [] = ρ := rfl
@[simp] theorem z_wipe1 {v vs} : wipeS ρ (v :: vs) = (wipeS ρ vs).set v .no := rfl
@[simp] theorem z_comp0 {ft : Tgt} {tb : CB} : compL ft tb fa ρ [] S = .ok [] S := rfl
theorem z_comp1 {ft : Tgt} {tb : CB} : compL ft tb fa ρ (t :: ts) S = match ft t ρ with
    | none => .stuck
    | some ρ1 => match tb S ρ1 with
      | .ok b S1 => if b = true then match fa S1 ρ1 with
          | .ok x S2 => match x.kept with
            | some y => (compL ft tb fa ρ ts S2).bind fun ys S3 => .ok (y :: ys) S3
            | none => .stuck
          | _ => .stuck
        else compL ft tb fa ρ ts S1
      | _ => .stuck := rfl
@[simp] theorem z_yes : cYes S ρ = .ok true S := rfl
/-- a comprehension that keeps what passes -/
theorem comp_ok {α : Type} {tt : α → T} {ft : Tgt} {tb : CB} {P : α → Bool} {fx : α → T} : ∀ {l : List α}, (∀ a ∈ l, ∃ ρ1 r, ft (tt a) ρ = some ρ1 ∧ tb S ρ1 = .ok (P a) S ∧ (P a = true → fa S ρ1 = .ok r S ∧ r.kept = some (fx a))) → compL ft tb fa ρ (l.map tt) S = .ok ((l.filter P).map fx) S
  | [], _ => rfl
  | t :: l, h => by
    obtain ⟨ρ1, r, h1, h2, h3⟩ := h t List.mem_cons_self
    have ih := comp_ok (l := l) fun u hu => h u (List.mem_cons_of_mem _ hu)
    rw [List.map_cons, z_comp1, h1]
    simp only [h2]
    cases e : P t with
    | true =>
      obtain ⟨h4, h5⟩ := h3 e
      simp only [if_true, h4, h5, ih]
      simp [List.filter_cons, e, Res.bind]
    | false => simp [List.filter_cons, e, ih]
theorem andV {fa fb : CE} {p q : Bool} (h1 : fa S ρ = .ok ⟨.frz, .bl p⟩ S) (h2 : fb S ρ = .ok ⟨.frz, .bl q⟩ S) : cAndV fa fb S ρ = .ok ⟨.frz, .bl (p && q)⟩ S := by
  cases p <;> simp [h1, h2]
theorem orV {fa fb : CE} {p q : Bool} (h1 : fa S ρ = .ok ⟨.frz, .bl p⟩ S) (h2 : fb S ρ = .ok ⟨.frz, .bl q⟩ S) : cOrV fa fb S ρ = .ok ⟨.frz, .bl (p || q)⟩ S := by
  cases p <;> simp [h1, h2]
theorem notV {fa : CE} {p : Bool} (h1 : fa S ρ = .ok ⟨.frz, .bl p⟩ S) : cNotV fa S ρ = .ok ⟨.frz, .bl (!p)⟩ S := by
  simp [h1]
theorem andB {ga gb : CB} {p q : Bool} (h1 : ga S ρ = .ok p S) (h2 : gb S ρ = .ok q S) : cAnd ga gb S ρ = .ok (p && q) S := by
  cases p <;> simp [h1, h2]
theorem orB {ga gb : CB} {p q : Bool} (h1 : ga S ρ = .ok p S) (h2 : gb S ρ = .ok q S) : cOr ga gb S ρ = .ok (p || q) S := by
  cases p <;> simp [h1, h2]
/-- a loop with something that stays true -/
theorem for_inv {ft : Tgt} {I : List Sl → Prop} : ∀ {l : List T}, (∀ t ∈ l, ∀ ρ, I ρ → ∃ ρ1 ρ2, ft t ρ = some ρ1 ∧ (f S ρ1 = .nx S ρ2 ∨ f S ρ1 = .ct S ρ2) ∧ I ρ2) → ∀ {ρ}, I ρ → ∃ ρ', forL ft f l S ρ = .nx S ρ' ∧ I ρ'
  | [], _, ρ, h => ⟨ρ, rfl, h⟩
  | t :: l, h, ρ, h0 => by
    obtain ⟨ρ1, ρ2, h1, h2, h3⟩ := h t List.mem_cons_self ρ h0
    obtain ⟨ρ', h4, h5⟩ := for_inv (l := l) (fun u hu => h u (List.mem_cons_of_mem _ hu)) h3
    refine ⟨ρ', ?_, h5⟩
    rw [z_forL1, h1]
    rcases h2 with h2 | h2 <;> (simp only [h2]; exact h4)
/-- a loop that carries a value along -/
theorem for_fold {α β : Type} {ft : Tgt} {I : β → List Sl → Prop} {tt : α → T} {fx : β → α → β} : ∀ {l : List α}, (∀ a ∈ l, ∀ b ρ, I b ρ → ∃ ρ1 ρ2, ft (tt a) ρ = some ρ1 ∧ (f S ρ1 = .nx S ρ2 ∨ f S ρ1 = .ct S ρ2) ∧ I (fx b a) ρ2) → ∀ {b ρ}, I b ρ → ∃ ρ', forL ft f (l.map tt) S ρ = .nx S ρ' ∧ I (l.foldl fx b) ρ'
  | [], _, b, ρ, h => ⟨ρ, rfl, h⟩
  | a :: l, h, b, ρ, h0 => by
    obtain ⟨ρ1, ρ2, h1, h2, h3⟩ := h a List.mem_cons_self b ρ h0
    obtain ⟨ρ', h4, h5⟩ := for_fold (l := l) (fun u hu => h u (List.mem_cons_of_mem _ hu)) h3
    refine ⟨ρ', ?_, h5⟩
    rw [List.map_cons, z_forL1, h1]
    rcases h2 with h2 | h2 <;> (simp only [h2]; exact h4)
end
section
variable {t : T} {ts us : List T} {c d : Nat}
@[simp] theorem y_isN : oIsN t .non = some ⟨.frz, .bl (isNonT t)⟩ := rfl
@[simp] theorem y_notN : oNotN t .non = some ⟨.frz, .bl (!isNonT t)⟩ := rfl
@[simp] theorem non1 : isNonT .non = true := rfl
@[simp] theorem non2 {c} : isNonT (.inst c ts) = false := rfl
@[simp] theorem non3 {b} : isNonT (.bl b) = false := rfl
@[simp] theorem non4 {b} : isNonT (.int b) = false := rfl
@[simp] theorem non5 {b} : isNonT (.str b) = false := rfl
@[simp] theorem non6 : isNonT (.tup ts) = false := rfl
@[simp] theorem non7 : isNonT (.lst ts) = false := rfl
@[simp] theorem non8 {c} : isNonT (.obj c) = false := rfl
@[simp] theorem non9 {c ts} : isNonT (.rcd c ts) = false := rfl
end
section
variable {S : Store} {i j : Int} {n : Nat}
@[simp] theorem y_isT {n t} : oIsT n t = (kt t).map fun k => ⟨.frz, .bl (ktIs k n)⟩ := rfl
@[simp] theorem y_kt {t} : kt t = match t with | .non => some .non | .bl _ => some .bl | .int _ => some .int | .str _ => some .str | .tup _ => some .tup | .lst _ => some .lst | .dic _ => some .dic | .dit _ => some .dic | _ => none := rfl
@[simp] theorem y_ktIs {k n} : ktIs k n = match k, n with | .bl, .bool => true | .bl, .int => true | .int, .int => true | .str, .str => true | .tup, .tuple => true | .lst, .list => true | .dic, .dict => true | _, _ => false := rfl
@[simp] theorem z_rng1I {k} : rng1I [⟨k, .int j⟩] S = if inB j then .ok (true, rngT 0 j.toNat) S else .stuck := rfl
@[simp] theorem z_rng2I {k k'} : rng2I [⟨k, .int i⟩, ⟨k', .int j⟩] S = if inB i && inB j then .ok (true, rngT i (j - i).toNat) S else .stuck := rfl
@[simp] theorem z_inB : inB i = (decide (-4611686018427387904 ≤ i) && decide (i < 4611686018427387904)) := rfl
@[simp] theorem rngT0 : rngT i 0 = [] := rfl
theorem rngT_succ : rngT i (n + 1) = .int i :: rngT (i + 1) n := by
  unfold rngT
  rw [List.range_succ_eq_map, List.map_cons, List.map_map]
  congr 1
  · simp
  · exact List.map_congr_left fun k _ => by simp; omega
@[simp] theorem rngT1 : rngT i 1 = [.int i] := by rw [rngT_succ, rngT0]
@[simp] theorem rngT2 : rngT i 2 = [.int i, .int (i + 1)] := by rw [rngT_succ, rngT1]
@[simp] theorem rngT3 : rngT i 3 = [.int i, .int (i + 1), .int (i + 1 + 1)] := by rw [rngT_succ, rngT2]
end
theorem seq_nx {S : Store} {ρ ρ1 : List Sl} {f g : CS} {r : Fl} (h : f S ρ = .nx S ρ1) (k : g S ρ1 = r) : sSeq f g S ρ = r := by
  rw [z_seq, h]; exact k
theorem body_rt {S : Store} {f : CS} {n : Nat} {rs : List R} {r : R} (h : f S (inρ n rs) = .rt r S) : bodyM n f S rs = .ok r S := by
  rw [z_body, h]; rfl
section
variable {S : Store} {ρ : List Sl} {fa : CE} {k : CA} {c : Nat} {m : Mir} {i j i' j' : Int}
@[simp] theorem z_mth : cMth c m fa k S ρ = (fa S ρ).bind fun x S1 => if isI c x && frzd x then (k S1 ρ).bind fun ys S2 => m S2 (x :: ys) else .stuck := rfl
@[simp] theorem y_ltT : oLtT (.tup [.int i, .int j]) (.tup [.int i', .int j']) = some ⟨.frz, .bl (if i = i' then decide (j < j') else decide (i < i'))⟩ := by
  show some (⟨.frz, .bl (HT.lexLt [i, j] [i', j'])⟩ : R) = _
  rw [ltL2]
@[simp] theorem y_leT : oLeT (.tup [.int i, .int j]) (.tup [.int i', .int j']) = some ⟨.frz, .bl (if i = i' then decide (j ≤ j') else decide (i ≤ i'))⟩ := by
  show some (⟨.frz, .bl (leL [i, j] [i', j'])⟩ : R) = _
  rw [leL2]
@[simp] theorem eq_tup2 : eqT (.tup [.int i, .int j]) (.tup [.int i', .int j']) = some (decide (i = i') && decide (j = j')) := by
  rw [eqT_flat (d := .tuple [.int i, .int j]) (e := .tuple [.int i', .int j']) rfl rfl rfl rfl]
  show some ((i == i') && ((j == j') && true)) = _
  rw [Bool.beq_eq_decide_eq, Bool.beq_eq_decide_eq, Bool.and_true]
end
end EV

namespace K03
open PySem L2 EV
def top (i : Nat) : Stmt := PySem.Challenge.pw_cutproof_k03_interval_order.main.body.getD i (.Pass ⟨0, 0, 0, 0⟩)
abbrev s_fbase : Stmt := top 8
def N_fbase : List Str := ["_law_cell_here"]
theorem sc_fbase : FnScope N_fbase ["_law_cell_here"] (defScope s_fbase) := ⟨rfl, rfl, rfl, by decide +kernel, rfl, by decide +kernel, by decide +kernel⟩
def b_fbase : CS := (sSeq (sIf (cAsB (cOp oEq (cOp oMod (cVar 0) (cC (.int 3))) (cC (.int 0))))
    (sRet (cOp oSub (cOp oMod (cOp oFd (cVar 0) (cC (.int 3))) (cC (.int 13))) (cC (.int 6))))
    sNext)
    (sSeq (sIf (cAsB (cOp oEq (cOp oMod (cVar 0) (cC (.int 3))) (cC (.int 1))))
    (sRet (cOp oMod (cOp oFd (cVar 0) (cC (.int 3))) (cOp oPow (cC (.int 10)) (cC (.int 29)))))
    sNext)
    (sRet (cOp oSub (cC (.int 0)) (cOp oMod (cOp oFd (cVar 0) (cC (.int 3))) (cOp oPow (cC (.int 10)) (cC (.int 29))))))))
def m_fbase : Mir := bodyM 1 b_fbase
abbrev s_fcell : Stmt := top 7
def N_fcell : List Str := ["_law_script", "_law_k"]
theorem sc_fcell : FnScope N_fcell ["_law_script", "_law_k"] (defScope s_fcell) := ⟨rfl, rfl, rfl, by decide +kernel, rfl, by decide +kernel, by decide +kernel⟩
def b_fcell : CS := (sRet (cIf (cAsB (cOp oLt (cVar 1) (cBcl oLen (cCons (cVar 0) cNil)))) (cBcl oInt (cCons (cOp oIx (cVar 0) (cVar 1)) cNil)) (cC (.int 0))))
def m_fcell : Mir := bodyM 2 b_fcell
abbrev s_fshift : Stmt := top 9
def N_fshift : List Str := ["_law_cell_here"]
theorem sc_fshift : FnScope N_fshift ["_law_cell_here"] (defScope s_fshift) := ⟨rfl, rfl, rfl, by decide +kernel, rfl, by decide +kernel, by decide +kernel⟩
def b_fshift : CS := (sSeq (sIf (cAsB (cOp oEq (cOp oMod (cVar 0) (cC (.int 2))) (cC (.int 0))))
    (sRet (cOp oSub (cOp oMod (cOp oAdd (cOp oFd (cVar 0) (cC (.int 2))) (cC (.int 7))) (cC (.int 14))) (cC (.int 4))))
    sNext)
    (sRet (cOp oMod (cOp oFd (cVar 0) (cC (.int 2))) (cOp oPow (cC (.int 10)) (cC (.int 28))))))
def m_fshift : Mir := bodyM 1 b_fshift
abbrev s_ffour : Stmt := top 10
def N_ffour : List Str := ["_law_script", "_law_k", "_law_one", "_law_two", "_law_three"]
theorem sc_ffour : FnScope N_ffour ["_law_script", "_law_k"] (defScope s_ffour) := ⟨rfl, rfl, rfl, by decide +kernel, rfl, by decide +kernel, by decide +kernel⟩
def b_ffour : CS := (sSeq (sSet 2 (cCall m_fbase [] (cCons (cCall m_fcell [] (cCons (cVar 0) (cCons (cVar 1) cNil))) cNil)))
    (sSeq (sSet 3 (cOp oAdd (cVar 2) (cCall m_fshift [] (cCons (cCall m_fcell [] (cCons (cVar 0) (cCons (cOp oAdd (cVar 1) (cC (.int 1))) cNil))) cNil))))
    (sSeq (sSet 4 (cOp oSub (cOp oAdd (cVar 2) (cCall m_fshift [] (cCons (cCall m_fcell [] (cCons (cVar 0) (cCons (cOp oAdd (cVar 1) (cC (.int 2))) cNil))) cNil))) (cC (.int 2))))
    (sRet (cTup (cCons (cVar 2) (cCons (cVar 3) (cCons (cVar 4) (cCons (cOp oAdd (cVar 4) (cCall m_fshift [] (cCons (cCall m_fcell [] (cCons (cVar 0) (cCons (cOp oAdd (cVar 1) (cC (.int 3))) cNil))) cNil))) cNil)))))))))
def m_ffour : Mir := bodyM 5 b_ffour
abbrev s_fInterval_eq : Stmt := inClass (top 5) 4
def N_fInterval_eq : List Str := ["self", "other"]
theorem sc_fInterval_eq : FnScope N_fInterval_eq ["self", "other"] (defScope s_fInterval_eq) := ⟨rfl, rfl, rfl, by decide +kernel, rfl, by decide +kernel, by decide +kernel⟩
def b_fInterval_eq : CS := (sSeq (sIf (cNot (cTru (cUn (oIsI kInterval) (cVar 1))))
    (fun _ _ => .stuck)
    sNext)
    (sRet (cOp oEq (cTup (cCons (cSlt kInterval 0 (cVar 0)) (cCons (cSlt kInterval 1 (cVar 0)) cNil))) (cTup (cCons (cSlt kInterval 0 (cVar 1)) (cCons (cSlt kInterval 1 (cVar 1)) cNil))))))
def m_fInterval_eq : Mir := bodyM 2 b_fInterval_eq
abbrev s_fInterval_lt : Stmt := inClass (top 5) 5
def N_fInterval_lt : List Str := ["self", "other"]
theorem sc_fInterval_lt : FnScope N_fInterval_lt ["self", "other"] (defScope s_fInterval_lt) := ⟨rfl, rfl, rfl, by decide +kernel, rfl, by decide +kernel, by decide +kernel⟩
def b_fInterval_lt : CS := (sSeq (sIf (cNot (cTru (cUn (oIsI kInterval) (cVar 1))))
    (fun _ _ => .stuck)
    sNext)
    (sRet (cOp oLtT (cTup (cCons (cSlt kInterval 0 (cVar 0)) (cCons (cSlt kInterval 1 (cVar 0)) cNil))) (cTup (cCons (cSlt kInterval 0 (cVar 1)) (cCons (cSlt kInterval 1 (cVar 1)) cNil))))))
def m_fInterval_lt : Mir := bodyM 2 b_fInterval_lt
abbrev s_fInterval_le : Stmt := inClass (top 5) 6
def N_fInterval_le : List Str := ["self", "other"]
theorem sc_fInterval_le : FnScope N_fInterval_le ["self", "other"] (defScope s_fInterval_le) := ⟨rfl, rfl, rfl, by decide +kernel, rfl, by decide +kernel, by decide +kernel⟩
def b_fInterval_le : CS := (sSeq (sIf (cNot (cTru (cUn (oIsI kInterval) (cVar 1))))
    (fun _ _ => .stuck)
    sNext)
    (sRet (cOp oLeT (cTup (cCons (cSlt kInterval 0 (cVar 0)) (cCons (cSlt kInterval 1 (cVar 0)) cNil))) (cTup (cCons (cSlt kInterval 0 (cVar 1)) (cCons (cSlt kInterval 1 (cVar 1)) cNil))))))
def m_fInterval_le : Mir := bodyM 2 b_fInterval_le
abbrev s_fInterval_cut : Stmt := inClass (top 5) 10
def N_fInterval_cut : List Str := ["self", "at"]
theorem sc_fInterval_cut : FnScope N_fInterval_cut ["self", "at"] (defScope s_fInterval_cut) := ⟨rfl, rfl, rfl, by decide +kernel, rfl, by decide +kernel, by decide +kernel⟩
def b_fInterval_cut : CS := (sSeq (sIf (cNot (cAsB (cChain oLt oLt (cSlt kInterval 0 (cVar 0)) (cVar 1) (cSlt kInterval 1 (cVar 0)))))
    (sRaise kBadPlace)
    sNext)
    (sRet (cTup (cCons (cIv (cCons (cSlt kInterval 0 (cVar 0)) (cCons (cVar 1) cNil))) (cCons (cIv (cCons (cVar 1) (cCons (cSlt kInterval 1 (cVar 0)) cNil))) cNil)))))
def m_fInterval_cut : Mir := bodyM 2 b_fInterval_cut
abbrev s_fwhole : Stmt := top 11
def N_fwhole : List Str := ["_law_number"]
theorem sc_fwhole : FnScope N_fwhole ["_law_number"] (defScope s_fwhole) := ⟨rfl, rfl, rfl, by decide +kernel, rfl, by decide +kernel, by decide +kernel⟩
def b_fwhole : CS := (sRet (cAndV (cUn (oIsT .int) (cVar 0)) (cNotV (cUn (oIsT .bool) (cVar 0)))))
def m_fwhole : Mir := bodyM 1 b_fwhole
abbrev s_ffields : Stmt := top 12
def N_ffields : List Str := ["_law_interval", "_law_start", "_law_stop"]
theorem sc_ffields : FnScope N_ffields ["_law_interval", "_law_start", "_law_stop"] (defScope s_ffields) := ⟨rfl, rfl, rfl, by decide +kernel, rfl, by decide +kernel, by decide +kernel⟩
def b_ffields : CS := (sSeq (sIf (cOr (cNot (cTru (cUn (oIsI kInterval) (cVar 0)))) (cOr (cNot (cTru (cCall m_fwhole [] (cCons (cSlt kInterval 0 (cVar 0)) cNil)))) (cNot (cTru (cCall m_fwhole [] (cCons (cSlt kInterval 1 (cVar 0)) cNil))))))
    (sRet (cC (.bl false)))
    sNext)
    (sSeq (sIf (cAsB (cOp oLt (cVar 1) (cVar 2)))
    (sRet (cAndV (cOp oEq (cSlt kInterval 0 (cVar 0)) (cVar 1)) (cOp oEq (cSlt kInterval 1 (cVar 0)) (cVar 2))))
    sNext)
    (sRet (cAndV (cOp oEq (cSlt kInterval 0 (cVar 0)) (cC (.int 0))) (cOp oEq (cSlt kInterval 1 (cVar 0)) (cC (.int 0)))))))
def m_ffields : Mir := bodyM 3 b_ffields
abbrev s_frefused : Stmt := top 13
def N_frefused : List Str := ["_law_interval", "_law_at", "e"]
theorem sc_frefused : FnScope N_frefused ["_law_interval", "_law_at"] (defScope s_frefused) := ⟨rfl, rfl, rfl, by decide +kernel, rfl, by decide +kernel, by decide +kernel⟩
def b_frefused : CS := (sSeq (sTry (sExpr (cMth kInterval m_fInterval_cut (cVar 0) (cCons (cVar 1) cNil))) (⟨[(kBadPlace, false)], none, (sRet (cC (.bl false)))⟩ :: (⟨[(kBadPlace, true)], some 2, (sRet (cAndV (cIsE 2 [(kBadPlace, true)]) (cIsE 2 [(kBadPlace, true)])))⟩ :: [])))
    (sRet (cC (.bl false))))
def m_frefused : Mir := bodyM 3 b_frefused
abbrev s_qlaw : Stmt := top 14
def N_qlaw : List Str := ["_law_script", "_law_ends", "_law_last", "_law_pairs", "_law_boxes", "_law_pair", "_law_keys", "_law_k", "_law_n", "_law_size", "_law_at", "_law_halves"]
theorem sc_qlaw : FnScope N_qlaw ["_law_script"] (defScope s_qlaw) := ⟨rfl, rfl, rfl, by decide +kernel, rfl, by decide +kernel, by decide +kernel⟩
def b_qlaw : CS := (sSeq (sSet 1 (cCall m_ffour [] (cCons (cVar 0) (cCons (cC (.int 0)) cNil))))
    (sSeq (sSet 2 (cOp oIx (cVar 1) (cOp oMod (cCall m_fcell [] (cCons (cVar 0) (cCons (cC (.int 4)) cNil))) (cC (.int 4)))))
    (sSeq (sSet 3 (cLst (cCons (cTup (cCons (cOp oIx (cVar 1) (cC (.int 0))) (cCons (cOp oIx (cVar 1) (cC (.int 1))) cNil))) (cCons (cTup (cCons (cOp oIx (cVar 1) (cC (.int 2))) (cCons (cOp oIx (cVar 1) (cC (.int 3))) cNil))) (cCons (cTup (cCons (cVar 2) (cCons (cOp oIx (cVar 1) (cOp oMod (cCall m_fcell [] (cCons (cVar 0) (cCons (cC (.int 5)) cNil))) (cC (.int 4)))) cNil))) cNil)))))
    (sSeq (sSet 4 (cLc (cNmI 3) [5] (gNm 5) cYes (cIv (cCons (cOp oIx (cVar 5) (cC (.int 0))) (cCons (cOp oIx (cVar 5) (cC (.int 1))) cNil)))))
    (sSeq (sSet 6 (cLc (cNmI 3) [5] (gNm 5) cYes (cIf (cAsB (cOp oLt (cOp oIx (cVar 5) (cC (.int 0))) (cOp oIx (cVar 5) (cC (.int 1))))) (cVar 5) (cTup (cCons (cC (.int 0)) (cCons (cC (.int 0)) cNil))))))
    (sSeq (sFor (cRng1 (cCons (cC (.int 3)) cNil)) (gNm 7)
    (sFor (cRng1 (cCons (cC (.int 3)) cNil)) (gNm 8)
    (sSeq (sIf (cOr (cAsB (cOp oNe (cOpA (oOwn kInterval m_fInterval_eq) (cOp oIx (cVar 4) (cVar 7)) (cOp oIx (cVar 4) (cVar 8))) (cOp oEq (cOp oIx (cVar 6) (cVar 7)) (cOp oIx (cVar 6) (cVar 8))))) (cAsB (cOp oNe (cOpA (oNeOwn kInterval m_fInterval_eq) (cOp oIx (cVar 4) (cVar 7)) (cOp oIx (cVar 4) (cVar 8))) (cOp oNe (cOp oIx (cVar 6) (cVar 7)) (cOp oIx (cVar 6) (cVar 8))))))
    (sRet (cC (.bl false)))
    sNext)
    (sIf (cOr (cAsB (cOp oNe (cOpA (oOwn kInterval m_fInterval_lt) (cOp oIx (cVar 4) (cVar 7)) (cOp oIx (cVar 4) (cVar 8))) (cOp oLtT (cOp oIx (cVar 6) (cVar 7)) (cOp oIx (cVar 6) (cVar 8))))) (cAsB (cOp oNe (cOpA (oOwn kInterval m_fInterval_le) (cOp oIx (cVar 4) (cVar 7)) (cOp oIx (cVar 4) (cVar 8))) (cOp oLeT (cOp oIx (cVar 6) (cVar 7)) (cOp oIx (cVar 6) (cVar 8))))))
    (sRet (cC (.bl false)))
    sNext))))
    (sSeq (sSet 9 (cBcl oMax2 (cCons (cC (.int 1)) (cCons (cOp oAdd (cOp oSub (cOp oIx (cVar 1) (cC (.int 1))) (cOp oIx (cVar 1) (cC (.int 0)))) (cC (.int 1))) cNil))))
    (sSeq (sFor (cSeqI (cLst (cCons (cOp oAdd (cOp oIx (cVar 1) (cC (.int 0))) (cOp oMod (cCall m_fcell [] (cCons (cVar 0) (cCons (cC (.int 6)) cNil))) (cVar 9))) (cCons (cOp oIx (cVar 1) (cC (.int 0))) (cCons (cOp oAdd (cOp oIx (cVar 1) (cC (.int 0))) (cC (.int 1))) (cCons (cOp oSub (cOp oIx (cVar 1) (cC (.int 1))) (cC (.int 1))) (cCons (cOp oIx (cVar 1) (cC (.int 1))) cNil))))))) (gNm 10)
    (sIf (cAnd (cAsB (cOp oLt (cOp oIx (cVar 1) (cC (.int 0))) (cVar 10))) (cAsB (cOp oLt (cVar 10) (cOp oIx (cVar 1) (cC (.int 1))))))
    (sSeq (sSet 11 (cMth kInterval m_fInterval_cut (cOp oIx (cVar 4) (cC (.int 0))) (cCons (cVar 10) cNil)))
    (sSeq (sIf (cOr (cNot (cTru (cUn (oIsT .tuple) (cVar 11)))) (cAsB (cOp oNe (cBcl oLen (cCons (cVar 11) cNil)) (cC (.int 2)))))
    (sRet (cC (.bl false)))
    sNext)
    (sIf (cOr (cNot (cTru (cCall m_ffields [] (cCons (cOp oIx (cVar 11) (cC (.int 0))) (cCons (cOp oIx (cVar 1) (cC (.int 0))) (cCons (cVar 10) cNil)))))) (cNot (cTru (cCall m_ffields [] (cCons (cOp oIx (cVar 11) (cC (.int 1))) (cCons (cVar 10) (cCons (cOp oIx (cVar 1) (cC (.int 1))) cNil)))))))
    (sRet (cC (.bl false)))
    sNext)))
    (sIf (cNot (cTru (cCall m_frefused [] (cCons (cOp oIx (cVar 4) (cC (.int 0))) (cCons (cVar 10) cNil)))))
    (sRet (cC (.bl false)))
    sNext)))
    (sRet (cCall m_ffields [] (cCons (cOp oIx (cVar 4) (cC (.int 0))) (cCons (cOp oIx (cVar 1) (cC (.int 0))) (cCons (cOp oIx (cVar 1) (cC (.int 1))) cNil)))))))))))))
def m_qlaw : Mir := bodyM 12 b_qlaw
end K03

namespace K03
open PySem L2 EV
def cellV (ns : List Int) (j : Nat) : Int := ns.getD j 0
theorem m_cell (S : Store) (ns : List Int) (j : Nat) : m_fcell S [⟨.frz, .scr ns⟩, ⟨.frz, .int j⟩] = .ok ⟨.frz, .int (cellV ns j)⟩ S := by
  by_cases h : j < ns.length
  · simp [m_fcell, b_fcell, cellV, atI_lit, h]
  · simp [m_fcell, b_fcell, cellV, h]
def baseV (c : Int) : Int := if c % 3 = 0 then c / 3 % 13 - 6 else if c % 3 = 1 then c / 3 % 10 ^ 29 else 0 - c / 3 % 10 ^ 29
theorem m_base (S : Store) (c : Int) : m_fbase S [⟨.frz, .int c⟩] = .ok ⟨.frz, .int (baseV c)⟩ S := by
  unfold baseV
  by_cases h : c % 3 = 0
  · simp [m_fbase, b_fbase, y_mod, y_fd, h]
  · by_cases h1 : c % 3 = 1
    · simp [m_fbase, b_fbase, y_mod, y_fd, y_pow, h, h1]
    · simp [m_fbase, b_fbase, y_mod, y_fd, y_pow, h, h1]
end K03
namespace K03
open PySem L2 EV
def shiftV (c : Int) : Int := if c % 2 = 0 then (c / 2 + 7) % 14 - 4 else c / 2 % 10 ^ 28
theorem m_shift (S : Store) (c : Int) : m_fshift S [⟨.frz, .int c⟩] = .ok ⟨.frz, .int (shiftV c)⟩ S := by
  unfold shiftV
  by_cases h : c % 2 = 0
  · simp [m_fshift, b_fshift, y_mod, y_fd, h]
  · simp [m_fshift, b_fshift, y_mod, y_fd, y_pow, h]
theorem m_cell0 (S : Store) (ns : List Int) : m_fcell S [⟨.frz, .scr ns⟩, ⟨.frz, .int 0⟩] = .ok ⟨.frz, .int (cellV ns 0)⟩ S := m_cell S ns 0
theorem m_cell1 (S : Store) (ns : List Int) : m_fcell S [⟨.frz, .scr ns⟩, ⟨.frz, .int 1⟩] = .ok ⟨.frz, .int (cellV ns 1)⟩ S := m_cell S ns 1
theorem m_cell2 (S : Store) (ns : List Int) : m_fcell S [⟨.frz, .scr ns⟩, ⟨.frz, .int 2⟩] = .ok ⟨.frz, .int (cellV ns 2)⟩ S := m_cell S ns 2
theorem m_cell3 (S : Store) (ns : List Int) : m_fcell S [⟨.frz, .scr ns⟩, ⟨.frz, .int 3⟩] = .ok ⟨.frz, .int (cellV ns 3)⟩ S := m_cell S ns 3
theorem m_four (S : Store) (ns : List Int) : ∃ a b c d : Int, m_ffour S [⟨.frz, .scr ns⟩, ⟨.frz, .int 0⟩] = .ok ⟨.frz, .tup [.int a, .int b, .int c, .int d]⟩ S := by
  simp [m_ffour, b_ffour, m_cell0, m_cell1, m_cell2, m_cell3, m_base, m_shift]
theorem m_whole (S : Store) (i : Int) : m_fwhole S [⟨.frz, .int i⟩] = .ok ⟨.frz, .bl true⟩ S := by
  simp [m_fwhole, b_fwhole, oIsT, kt, ktIs]
theorem m_fields (S : Store) (s e a b : Int) : m_ffields S [⟨.frz, ivT s e⟩, ⟨.frz, .int a⟩, ⟨.frz, .int b⟩] = .ok ⟨.frz, .bl (if a < b then decide (ivS s e = a) && decide (ivE s e = b) else decide (ivS s e = 0) && decide (ivE s e = 0))⟩ S := by
  by_cases h : a < b
  · by_cases h1 : ivS s e = a
    · simp [m_ffields, b_ffields, ivT, oIsI, m_whole, h, h1]
    · simp [m_ffields, b_ffields, ivT, oIsI, m_whole, h, h1]
  · by_cases h1 : ivS s e = 0
    · simp [m_ffields, b_ffields, ivT, oIsI, m_whole, h, h1]
    · simp [m_ffields, b_ffields, ivT, oIsI, m_whole, h, h1]
@[simp] theorem ix0 {a b c d : T} : atI [a, b, c, d] (0 : Int) = some a := rfl
@[simp] theorem ix1 {a b c d : T} : atI [a, b, c, d] (1 : Int) = some b := rfl
@[simp] theorem ix2 {a b c d : T} : atI [a, b, c, d] (2 : Int) = some c := rfl
@[simp] theorem ix3 {a b c d : T} : atI [a, b, c, d] (3 : Int) = some d := rfl
@[simp] theorem ap0 {a b : T} : atI [a, b] (0 : Int) = some a := rfl
@[simp] theorem ap1 {a b : T} : atI [a, b] (1 : Int) = some b := rfl
@[simp] theorem aq0 {a : T} : atI [a] (0 : Int) = some a := rfl
def ivP (p : Int × Int) : T := ivT p.1 p.2
def kyP (p : Int × Int) : T := .tup [.int (ivS p.1 p.2), .int (ivE p.1 p.2)]
@[simp] theorem m_eq (S : Store) (a b c d : Int) : m_fInterval_eq S [⟨.frz, ivT a b⟩, ⟨.frz, ivT c d⟩] = .ok ⟨.frz, .bl (decide (ivS a b = ivS c d) && decide (ivE a b = ivE c d))⟩ S := by
  simp [m_fInterval_eq, b_fInterval_eq]
@[simp] theorem m_lt (S : Store) (a b c d : Int) : m_fInterval_lt S [⟨.frz, ivT a b⟩, ⟨.frz, ivT c d⟩] = .ok ⟨.frz, .bl (if ivS a b = ivS c d then decide (ivE a b < ivE c d) else decide (ivS a b < ivS c d))⟩ S := by
  simp [m_fInterval_lt, b_fInterval_lt]
@[simp] theorem m_le (S : Store) (a b c d : Int) : m_fInterval_le S [⟨.frz, ivT a b⟩, ⟨.frz, ivT c d⟩] = .ok ⟨.frz, .bl (if ivS a b = ivS c d then decide (ivE a b ≤ ivE c d) else decide (ivS a b ≤ ivS c d))⟩ S := by
  simp [m_fInterval_le, b_fInterval_le]
theorem m_cut1 (S : Store) (a b m : Int) (h : ivS a b < m ∧ m < ivE a b) : m_fInterval_cut S [⟨.frz, ivT a b⟩, ⟨.frz, .int m⟩] = .ok ⟨.frz, .tup [ivT (ivS a b) m, ivT m (ivE a b)]⟩ S := by
  simp [m_fInterval_cut, b_fInterval_cut, h]
theorem m_cut2 (S : Store) (a b m : Int) (h : ¬ (ivS a b < m ∧ m < ivE a b)) : m_fInterval_cut S [⟨.frz, ivT a b⟩, ⟨.frz, .int m⟩] = .err ⟨kBadPlace, []⟩ S := by
  by_cases h1 : ivS a b < m
  · have h2 : ¬ m < ivE a b := fun z => h ⟨h1, z⟩
    simp [m_fInterval_cut, b_fInterval_cut, h1, h2]
  · simp [m_fInterval_cut, b_fInterval_cut, h1]
theorem m_refused (S : Store) (a b m : Int) (h : ¬ (ivS a b < m ∧ m < ivE a b)) : m_frefused S [⟨.frz, ivT a b⟩, ⟨.frz, .int m⟩] = .ok ⟨.frz, .bl true⟩ S := by
  simp [m_frefused, b_frefused, m_cut2 S a b m h, z_hdl1, List.lookup, z_isE]
@[simp] theorem own_eq {S : Store} {a b c d : Int} : oOwn kInterval m_fInterval_eq S ⟨.frz, ivT a b⟩ ⟨.frz, ivT c d⟩ = .ok ⟨.frz, .bl (decide (ivS a b = ivS c d) && decide (ivE a b = ivE c d))⟩ S := by
  simp [oOwn]
@[simp] theorem own_ne {S : Store} {a b c d : Int} : oNeOwn kInterval m_fInterval_eq S ⟨.frz, ivT a b⟩ ⟨.frz, ivT c d⟩ = .ok ⟨.frz, .bl (!(decide (ivS a b = ivS c d) && decide (ivE a b = ivE c d)))⟩ S := by
  simp [oNeOwn]
@[simp] theorem own_lt {S : Store} {a b c d : Int} : oOwn kInterval m_fInterval_lt S ⟨.frz, ivT a b⟩ ⟨.frz, ivT c d⟩ = .ok ⟨.frz, .bl (if ivS a b = ivS c d then decide (ivE a b < ivE c d) else decide (ivS a b < ivS c d))⟩ S := by
  simp [oOwn]
@[simp] theorem own_le {S : Store} {a b c d : Int} : oOwn kInterval m_fInterval_le S ⟨.frz, ivT a b⟩ ⟨.frz, ivT c d⟩ = .ok ⟨.frz, .bl (if ivS a b = ivS c d then decide (ivE a b ≤ ivE c d) else decide (ivS a b ≤ ivS c d))⟩ S := by
  simp [oOwn]
/-! ### the law -/
def ptT (p : Int × Int) : T := .tup [.int p.1, .int p.2]
def st (ns : List Int) (a b c d l : Int) (ps : List (Int × Int)) (x7 x8 x9 x10 x11 : Sl) : List Sl := [.val (.scr ns), .val (.tup [.int a, .int b, .int c, .int d]), .val (.int l), .own (.lst (ps.map ptT)), .own (.lst (ps.map ivP)), .no, .own (.lst (ps.map kyP)), x7, x8, x9, x10, x11]
def inA : CS := (sSeq (sIf (cOr (cAsB (cOp oNe (cOpA (oOwn kInterval m_fInterval_eq) (cOp oIx (cVar 4) (cVar 7)) (cOp oIx (cVar 4) (cVar 8))) (cOp oEq (cOp oIx (cVar 6) (cVar 7)) (cOp oIx (cVar 6) (cVar 8))))) (cAsB (cOp oNe (cOpA (oNeOwn kInterval m_fInterval_eq) (cOp oIx (cVar 4) (cVar 7)) (cOp oIx (cVar 4) (cVar 8))) (cOp oNe (cOp oIx (cVar 6) (cVar 7)) (cOp oIx (cVar 6) (cVar 8))))))
    (sRet (cC (.bl false)))
    sNext)
    (sIf (cOr (cAsB (cOp oNe (cOpA (oOwn kInterval m_fInterval_lt) (cOp oIx (cVar 4) (cVar 7)) (cOp oIx (cVar 4) (cVar 8))) (cOp oLtT (cOp oIx (cVar 6) (cVar 7)) (cOp oIx (cVar 6) (cVar 8))))) (cAsB (cOp oNe (cOpA (oOwn kInterval m_fInterval_le) (cOp oIx (cVar 4) (cVar 7)) (cOp oIx (cVar 4) (cVar 8))) (cOp oLeT (cOp oIx (cVar 6) (cVar 7)) (cOp oIx (cVar 6) (cVar 8))))))
    (sRet (cC (.bl false)))
    sNext))
def inB' : CS := (sIf (cAnd (cAsB (cOp oLt (cOp oIx (cVar 1) (cC (.int 0))) (cVar 10))) (cAsB (cOp oLt (cVar 10) (cOp oIx (cVar 1) (cC (.int 1))))))
    (sSeq (sSet 11 (cMth kInterval m_fInterval_cut (cOp oIx (cVar 4) (cC (.int 0))) (cCons (cVar 10) cNil)))
    (sSeq (sIf (cOr (cNot (cTru (cUn (oIsT .tuple) (cVar 11)))) (cAsB (cOp oNe (cBcl oLen (cCons (cVar 11) cNil)) (cC (.int 2)))))
    (sRet (cC (.bl false)))
    sNext)
    (sIf (cOr (cNot (cTru (cCall m_ffields [] (cCons (cOp oIx (cVar 11) (cC (.int 0))) (cCons (cOp oIx (cVar 1) (cC (.int 0))) (cCons (cVar 10) cNil)))))) (cNot (cTru (cCall m_ffields [] (cCons (cOp oIx (cVar 11) (cC (.int 1))) (cCons (cVar 10) (cCons (cOp oIx (cVar 1) (cC (.int 1))) cNil)))))))
    (sRet (cC (.bl false)))
    sNext)))
    (sIf (cNot (cTru (cCall m_frefused [] (cCons (cOp oIx (cVar 4) (cC (.int 0))) (cCons (cVar 10) cNil)))))
    (sRet (cC (.bl false)))
    sNext))
theorem inA_ok (S : Store) (ns : List Int) (a b c d l : Int) (ps : List (Int × Int)) (i j : Nat) (hi : i < ps.length) (hj : j < ps.length) (x9 x10 x11 : Sl) : inA S (st ns a b c d l ps (.val (.int i)) (.val (.int j)) x9 x10 x11) = .nx S (st ns a b c d l ps (.val (.int i)) (.val (.int j)) x9 x10 x11) := by
  unfold inA st
  simp [atI_lit, hi, hj, ivP, kyP]
theorem cutG (a b m : Int) (h : a < m ∧ m < b) : ivS a b = a ∧ ivE a b = b := ⟨if_pos (by omega), if_pos (by omega)⟩
theorem cutN (a b m : Int) (h : ¬ (a < m ∧ m < b)) : ¬ (ivS a b < m ∧ m < ivE a b) := by
  unfold ivS ivE
  split <;> omega
theorem inB_ok (S : Store) (ns : List Int) (a b c d l m : Int) (ps : List (Int × Int)) (x7 x8 x9 x11 : Sl) : ∃ y11, inB' S (st ns a b c d l ((a, b) :: ps) x7 x8 x9 (.val (.int m)) x11) = .nx S (st ns a b c d l ((a, b) :: ps) x7 x8 x9 (.val (.int m)) y11) := by
  have e0 : ∀ ts : List T, atI (ivT a b :: ts) (0 : Int) = some (ivT a b) := fun ts => by
    show atI (ivT a b :: ts) ((0 : Nat) : Int) = _
    rw [atI_lit]; rfl
  by_cases h : a < m ∧ m < b
  · obtain ⟨g1, g2⟩ := cutG a b m h
    have e := m_cut1 S a b m (by rw [g1, g2]; exact h)
    rw [g1, g2] at e
    have f1 : ivS a m = a := if_pos h.1
    have f2 : ivE a m = m := if_pos h.1
    have f3 : ivS m b = m := if_pos h.2
    have f4 : ivE m b = b := if_pos h.2
    refine ⟨.val (.tup [ivT a m, ivT m b]), ?_⟩
    unfold inB' st
    simp [h, ivP, e0, e, m_fields, f1, f2, f3, f4]
  · have e := m_refused S a b m (cutN a b m h)
    refine ⟨x11, ?_⟩
    unfold inB' st
    by_cases h1 : a < m
    · have h2 : ¬ m < b := fun z => h ⟨h1, z⟩
      simp [h1, h2, ivP, e0, e]
    · simp [h1, ivP, e0, e]
theorem pickN (a b c d n : Int) : ∃ x, atI [T.int a, .int b, .int c, .int d] (n % 4) = some (.int x) := by
  have h : n % 4 = 0 ∨ n % 4 = 1 ∨ n % 4 = 2 ∨ n % 4 = 3 := by omega
  rcases h with h | h | h | h <;> rw [h] <;> exact ⟨_, rfl⟩
theorem m_cell4 (S : Store) (ns : List Int) : m_fcell S [⟨.frz, .scr ns⟩, ⟨.frz, .int 4⟩] = .ok ⟨.frz, .int (cellV ns 4)⟩ S := m_cell S ns 4
theorem m_cell5 (S : Store) (ns : List Int) : m_fcell S [⟨.frz, .scr ns⟩, ⟨.frz, .int 5⟩] = .ok ⟨.frz, .int (cellV ns 5)⟩ S := m_cell S ns 5
theorem m_cell6 (S : Store) (ns : List Int) : m_fcell S [⟨.frz, .scr ns⟩, ⟨.frz, .int 6⟩] = .ok ⟨.frz, .int (cellV ns 6)⟩ S := m_cell S ns 6
theorem boxes (S : Store) (ps : List (Int × Int)) (x0 x1 x2 x3 x4 x6 x7 x8 x9 x10 x11 : Sl) : compL (gNm 5) cYes (cIv (cCons (cOp oIx (cVar 5) (cC (.int 0))) (cCons (cOp oIx (cVar 5) (cC (.int 1))) cNil))) [x0, x1, x2, x3, x4, .no, x6, x7, x8, x9, x10, x11] (ps.map ptT) S = .ok (ps.map ivP) S := by
  have e := comp_ok (S := S) (ρ := [x0, x1, x2, x3, x4, .no, x6, x7, x8, x9, x10, x11]) (ft := gNm 5) (tb := cYes) (fa := cIv (cCons (cOp oIx (cVar 5) (cC (.int 0))) (cCons (cOp oIx (cVar 5) (cC (.int 1))) cNil))) (l := ps) (tt := ptT) (P := fun _ => true) (fx := ivP) fun p _ => ⟨_, ⟨.frz, ivP p⟩, rfl, rfl, fun _ => ⟨by simp [ptT, ivP], rfl⟩⟩
  rw [e, List.filter_eq_self.mpr fun _ _ => rfl]
theorem keys (S : Store) (ps : List (Int × Int)) (x0 x1 x2 x3 x4 x6 x7 x8 x9 x10 x11 : Sl) : compL (gNm 5) cYes (cIf (cAsB (cOp oLt (cOp oIx (cVar 5) (cC (.int 0))) (cOp oIx (cVar 5) (cC (.int 1))))) (cVar 5) (cTup (cCons (cC (.int 0)) (cCons (cC (.int 0)) cNil)))) [x0, x1, x2, x3, x4, .no, x6, x7, x8, x9, x10, x11] (ps.map ptT) S = .ok (ps.map kyP) S := by
  have e := comp_ok (S := S) (ρ := [x0, x1, x2, x3, x4, .no, x6, x7, x8, x9, x10, x11]) (ft := gNm 5) (tb := cYes) (fa := cIf (cAsB (cOp oLt (cOp oIx (cVar 5) (cC (.int 0))) (cOp oIx (cVar 5) (cC (.int 1))))) (cVar 5) (cTup (cCons (cC (.int 0)) (cCons (cC (.int 0)) cNil)))) (l := ps) (tt := ptT) (P := fun _ => true) (fx := kyP) fun p _ => ⟨_, ⟨.frz, kyP p⟩, rfl, rfl, fun _ => ⟨by
    by_cases h : p.1 < p.2
    · simp [ptT, kyP, h, ivS, ivE]
    · simp [ptT, kyP, h, ivS, ivE], rfl⟩⟩
  rw [e, List.filter_eq_self.mpr fun _ _ => rfl]
def midA : CS := sFor (cRng1 (cCons (cC (.int 3)) cNil)) (gNm 8) inA
theorem three {t : T} (h : t ∈ rngT 0 3) : ∃ i : Nat, i < 3 ∧ t = .int i := by
  rw [rngT3] at h
  simp only [List.mem_cons, List.not_mem_nil, or_false] at h
  rcases h with rfl | rfl | rfl
  · exact ⟨0, by decide, rfl⟩
  · exact ⟨1, by decide, rfl⟩
  · exact ⟨2, by decide, rfl⟩
theorem midA_ok (S : Store) (ns : List Int) (a b c d l : Int) (ps : List (Int × Int)) (hp : ps.length = 3) (i : Nat) (hi : i < 3) (x8 x9 x10 x11 : Sl) : ∃ y8, midA S (st ns a b c d l ps (.val (.int i)) x8 x9 x10 x11) = .nx S (st ns a b c d l ps (.val (.int i)) y8 x9 x10 x11) := by
  obtain ⟨ρ', h1, y8, rfl⟩ := for_inv (ft := gNm 8) (f := inA) (S := S) (l := rngT 0 3) (I := fun ρ => ∃ y8, ρ = st ns a b c d l ps (.val (.int i)) y8 x9 x10 x11) (fun t ht ρ hI => by
    obtain ⟨y8, rfl⟩ := hI
    obtain ⟨j, hj, rfl⟩ := three ht
    exact ⟨_, _, rfl, .inl (inA_ok S ns a b c d l ps i j (by omega) (by omega) x9 x10 x11), _, rfl⟩) ⟨x8, rfl⟩
  refine ⟨y8, ?_⟩
  rw [← h1]
  unfold midA
  simp
theorem outA_ok (S : Store) (ns : List Int) (a b c d l : Int) (ps : List (Int × Int)) (hp : ps.length = 3) (x7 x8 x9 x10 x11 : Sl) : ∃ y7 y8, sFor (cRng1 (cCons (cC (.int 3)) cNil)) (gNm 7) midA S (st ns a b c d l ps x7 x8 x9 x10 x11) = .nx S (st ns a b c d l ps y7 y8 x9 x10 x11) := by
  obtain ⟨ρ', h1, y7, y8, rfl⟩ := for_inv (ft := gNm 7) (f := midA) (S := S) (l := rngT 0 3) (I := fun ρ => ∃ y7 y8, ρ = st ns a b c d l ps y7 y8 x9 x10 x11) (fun t ht ρ hI => by
    obtain ⟨y7, y8, rfl⟩ := hI
    obtain ⟨j, hj, rfl⟩ := three ht
    obtain ⟨z8, e⟩ := midA_ok S ns a b c d l ps hp j hj y8 x9 x10 x11
    exact ⟨_, _, rfl, .inl e, _, _, rfl⟩) ⟨x7, x8, rfl⟩
  refine ⟨y7, y8, ?_⟩
  rw [← h1]
  simp
theorem outB_ok (S : Store) (ns : List Int) (a b c d l : Int) (ps : List (Int × Int)) (ms : List Int) (x7 x8 x9 x10 x11 : Sl) : ∃ y10 y11, forL (gNm 10) inB' (ms.map .int) S (st ns a b c d l ((a, b) :: ps) x7 x8 x9 x10 x11) = .nx S (st ns a b c d l ((a, b) :: ps) x7 x8 x9 y10 y11) := by
  obtain ⟨ρ', h1, y10, y11, rfl⟩ := for_inv (ft := gNm 10) (f := inB') (S := S) (l := ms.map .int) (I := fun ρ => ∃ y10 y11, ρ = st ns a b c d l ((a, b) :: ps) x7 x8 x9 y10 y11) (fun t ht ρ hI => by
    obtain ⟨y10, y11, rfl⟩ := hI
    obtain ⟨m, _, rfl⟩ := List.mem_map.mp ht
    obtain ⟨z, e⟩ := inB_ok S ns a b c d l m ps x7 x8 x9 y11
    exact ⟨_, _, rfl, .inl e, _, _, rfl⟩) ⟨x10, x11, rfl⟩
  exact ⟨y10, y11, h1⟩
theorem law_ok (ns : List Int) (hl : ns.length ≤ 63) : ∃ S, m_qlaw [] [⟨.frz, .scr ns⟩] = .ok ⟨.frz, .bl true⟩ S := by
  refine ⟨[], body_rt ?_⟩
  obtain ⟨a, b, c, d, e4⟩ := m_four [] ns
  obtain ⟨l, el⟩ := pickN a b c d (cellV ns 4)
  obtain ⟨l', el'⟩ := pickN a b c d (cellV ns 5)
  have f1 : (if a < b then decide (ivS a b = a) && decide (ivE a b = b) else decide (ivS a b = 0) && decide (ivE a b = 0)) = true := by
    by_cases h : a < b <;> simp [h, ivS, ivE]
  have bx := boxes [] [(a, b), (c, d), (l, l')]
  have ky := keys [] [(a, b), (c, d), (l, l')]
  simp only [List.map_cons, List.map_nil] at bx ky
  obtain ⟨z, ez, hz⟩ : ∃ z, (if b - a + 1 > 1 then b - a + 1 else 1) = z ∧ 0 < z := ⟨_, rfl, by split <;> omega⟩
  obtain ⟨y7, y8, eA⟩ := outA_ok [] ns a b c d l [(a, b), (c, d), (l, l')] rfl .no .no .no .no .no
  obtain ⟨y10, y11, eB⟩ := outB_ok [] ns a b c d l [(c, d), (l, l')] [a + cellV ns 6 % z, a, a + 1, b - 1, b] y7 y8 (.val (.int z)) .no .no
  unfold b_qlaw
  refine seq_nx (ρ1 := [.val (.scr ns), .val (.tup [.int a, .int b, .int c, .int d]), .no, .no, .no, .no, .no, .no, .no, .no, .no, .no]) (by simp [e4]) ?_
  refine seq_nx (ρ1 := [.val (.scr ns), .val (.tup [.int a, .int b, .int c, .int d]), .val (.int l), .no, .no, .no, .no, .no, .no, .no, .no, .no]) (by simp [m_cell4, y_mod, el]) ?_
  refine seq_nx (ρ1 := [.val (.scr ns), .val (.tup [.int a, .int b, .int c, .int d]), .val (.int l), .own (.lst [ptT (a, b), ptT (c, d), ptT (l, l')]), .no, .no, .no, .no, .no, .no, .no, .no]) (by simp [m_cell5, y_mod, el', ptT]) ?_
  refine seq_nx (ρ1 := [.val (.scr ns), .val (.tup [.int a, .int b, .int c, .int d]), .val (.int l), .own (.lst [ptT (a, b), ptT (c, d), ptT (l, l')]), .own (.lst [ivP (a, b), ivP (c, d), ivP (l, l')]), .no, .no, .no, .no, .no, .no, .no]) (by simp [bx]) ?_
  refine seq_nx (ρ1 := st ns a b c d l [(a, b), (c, d), (l, l')] .no .no .no .no .no) (by simp [ky, st]) ?_
  refine seq_nx (by
    have q := eA
    unfold midA inA at q
    exact q) ?_
  refine seq_nx (ρ1 := st ns a b c d l [(a, b), (c, d), (l, l')] y7 y8 (.val (.int z)) .no .no) (by
    simp only [gt_iff_lt] at ez
    simp [st, ez]) ?_
  refine seq_nx (ρ1 := st ns a b c d l [(a, b), (c, d), (l, l')] y7 y8 (.val (.int z)) y10 y11) (by
    rw [← eB]
    unfold inB'
    simp [st, m_cell6, y_mod hz]) ?_
  have e0 : ∀ ts : List T, atI (ivT a b :: ts) (0 : Int) = some (ivT a b) := fun ts => by
    show atI (ivT a b :: ts) ((0 : Nat) : Int) = _
    rw [atI_lit]; rfl
  simp [st, m_fields, f1, e0, ivP]
end K03

namespace K03
open PySem L2 EV
structure Fcts (g : Gx) (mg : Str → Option Value) : Prop where
  b_ValueError : mg "ValueError" = none
  b_bool : mg "bool" = none
  b_int : mg "int" = none
  b_isinstance : mg "isinstance" = none
  b_len : mg "len" = none
  b_max : mg "max" = none
  b_range : mg "range" = none
  b_tuple : mg "tuple" = none
  ocI : OwnC g kInterval
  sl0 : ∃ q, SlX.Slot1 g.K (g.cs kInterval) "start" q 0
  sl1 : ∃ q, SlX.Slot1 g.K (g.cs kInterval) "stop" q 1
  siI : SlX.SIsi g.K (g.cs kInterval)
  mgI : mg "Interval" = some (.ref (g.cs kInterval))
  neI : NeC g kInterval
  xm_BadPlace : XMk g mg "BadPlace" kBadPlace
  xh_Apart : XCls g mg "Apart" kApart ∧ PySem.W.hasDictIn g.K (g.cs kApart) = true
  xh_CutError : XCls g mg "CutError" kCutError ∧ PySem.W.hasDictIn g.K (g.cs kCutError) = true
  xc_BadPlace : ExcC g.K (g.cs kBadPlace)
  sub_BadPlace_Apart : PySem.W.subIn g.K (.ref (g.cs kBadPlace)) (.ref (g.cs kApart)) = some false
  sub_BadPlace_CutError : PySem.W.subIn g.K (.ref (g.cs kBadPlace)) (.ref (g.cs kCutError)) = some true
  kit_BadPlace_BadPlace : PySem.W.kitOne g.K (.ref (g.cs kBadPlace)) (.ref (g.cs kBadPlace)) = some true
  kit_BadPlace_ValueError : PySem.W.kitOne g.K (.ref (g.cs kBadPlace)) (.type "ValueError") = some true
  mg_BadPlace : mg "BadPlace" = some (.ref (g.cs kBadPlace))

abbrev s_fInterval_init : Stmt := inClass (top 5) 1
theorem sc_fInterval_init : FnScope ["self", "start", "stop"] ["self", "start", "stop"] (defScope s_fInterval_init) := ⟨rfl, rfl, rfl, by decide +kernel, rfl, by decide +kernel, by decide +kernel⟩
theorem ok_iv {P : Program} {w : World} {g : Gx} {mg : Str → Option Value} {base : Heap} {f : Addr} {fd : FuncData} (Fx : Fcts g mg) (F : L2.Fun g.K "__init__" "Interval.__init__" s_fInterval_init f fd) : FnOk P w g.K mg base (L2.CX P w) 1 f fd ["self", "start", "stop"] (spIv g) := by
  refine fn_iv (t := tSeq (tIfS (tTest (tOp (rI0 fun i j => .bl (decide (j ≤ i))) (tVar 1) (tVar 2))) (tAsg2 (tC (.int 0)) (gName 1) (gName 2)) tNext) (tSeq (SlX.sSl g.K (tVar 0) (tVar 1) "start") (SlX.sSl g.K (tVar 0) (tVar 2) "stop"))) F sc_fInterval_init (fun cdv A outer s H E hr => pss_cons (ps_if (pt_cmpR op_ge (pv 1) (pv 2) (nomark _)) (pss_one (ps_asg2 pe_int (pg_name (i := 1) sc_fInterval_init.nd rfl (Or.inl rfl)) (pg_name (i := 2) sc_fInterval_init.nd rfl (Or.inl rfl)))) pss_nil)
    (pss_cons (SlX.ps_sl (pv 0) (pv 1)) (pss_one (SlX.ps_sl (pv 0) (pv 2))))) ?_
  intro H x dx s e Q ne hx q
  obtain ⟨q0, sl0⟩ := Fx.sl0
  obtain ⟨q1, sl1⟩ := Fx.sl1
  have fin : ∀ (a b : Int), ivS s e = a → ivE s e = b → tSeq (SlX.sSl g.K (tVar 0) (tVar 1) "start") (SlX.sSl g.K (tVar 0) (tVar 2) "stop") { nx := fun _ H' => Q .non H', rt := Q } [some (.ref x), some (.int a), some (.int b)] H := by
    intro a b ea eb
    refine ⟨_, rfl, _, rfl, x, _, dx, q0, [], 0, rfl, .inl ⟨hx, rfl⟩, Fx.ocI.cl, sl0, ?_⟩
    refine ⟨_, rfl, _, rfl, x, _, dx, q1, _, 1, rfl, SlX.slH_slt ne, Fx.ocI.cl, sl1, ?_⟩
    show Q .non (SlX.slH (SlX.slH H x (g.cs kInterval) dx (SlX.putS 0 (.int a) [])) x (g.cs kInterval) dx (SlX.putS 1 (.int b) (SlX.putS 0 (.int a) [])))
    rw [SlX.slH_twice ne, put2, ← ea, ← eb]
    exact q
  refine ⟨_, rfl, _, rfl, _, _, rfl, rfl, _, rfl, ?_⟩
  by_cases hl : s < e
  · have h1 : decide (e ≤ s) = false := decide_eq_false (by omega)
    rw [h1]
    exact fin s e (by unfold ivS; rw [if_pos hl]) (by unfold ivE; rw [if_pos hl])
  · have h1 : decide (e ≤ s) = true := decide_eq_true (by omega)
    rw [h1]
    exact fin 0 0 (by unfold ivS; rw [if_neg hl]) (by unfold ivE; rw [if_neg hl])
section
variable {P : Program} {w : World} {g : Gx} {mg : Str → Option Value} {base : Heap}
theorem ok_fbase (Fx : Fcts g mg) (D : DefF g mg "_law_base" s_fbase ["_law_cell_here"]) : Has P w g mg base "_law_base" 1 1 [] m_fbase :=
  has_of (N := N_fbase) D sc_fbase rfl fun f cdv A outer s H E hr =>
    (ss_cons (s_if (b_cmp (op_eqD hr.units) ops_eq (e_op op_modN ops_mod (e_var (pv 0)) e_int) e_int (nomark _))
    (ss_one (s_ret (e_op op_sub ops_sub (e_op op_modN ops_mod (e_op op_fdivN ops_fd (e_var (pv 0)) e_int) e_int) e_int)))
    ss_nil)
    (ss_cons (s_if (b_cmp (op_eqD hr.units) ops_eq (e_op op_modN ops_mod (e_var (pv 0)) e_int) e_int (nomark _))
    (ss_one (s_ret (e_op op_modN ops_mod (e_op op_fdivN ops_fd (e_var (pv 0)) e_int) (e_op op_pow ops_pow e_int e_int))))
    ss_nil)
    (ss_one (s_ret (e_op op_sub ops_sub e_int (e_op op_modN ops_mod (e_op op_fdivN ops_fd (e_var (pv 0)) e_int) (e_op op_pow ops_pow e_int e_int)))))))
theorem ok_fcell (Fx : Fcts g mg) (D : DefF g mg "_law_cell" s_fcell ["_law_script", "_law_k"]) : Has P w g mg base "_law_cell" 1 2 [] m_fcell :=
  has_of (N := N_fcell) D sc_fcell rfl fun f cdv A outer s H E hr =>
    (ss_one (s_ret (e_if (b_cmp op_lt ops_lt (e_var (pv 1)) (e_blt call_len cals_len rfl Fx.b_len PySem.boot_len (a_cons (e_var (pv 0)) a_nil)) (nomark _)) (e_bty call_int1 cals_int rfl Fx.b_int PyProof.Rows.boot_int (a_cons (e_ix rfl (e_var (pv 0)) (e_var (pv 1)) (fun _ _ => rfl)) a_nil)) e_int)))
theorem ok_fshift (Fx : Fcts g mg) (D : DefF g mg "_law_shift" s_fshift ["_law_cell_here"]) : Has P w g mg base "_law_shift" 1 1 [] m_fshift :=
  has_of (N := N_fshift) D sc_fshift rfl fun f cdv A outer s H E hr =>
    (ss_cons (s_if (b_cmp (op_eqD hr.units) ops_eq (e_op op_modN ops_mod (e_var (pv 0)) e_int) e_int (nomark _))
    (ss_one (s_ret (e_op op_sub ops_sub (e_op op_modN ops_mod (e_op op_addT ops_addT (e_op op_fdivN ops_fd (e_var (pv 0)) e_int) e_int) e_int) e_int)))
    ss_nil)
    (ss_one (s_ret (e_op op_modN ops_mod (e_op op_fdivN ops_fd (e_var (pv 0)) e_int) (e_op op_pow ops_pow e_int e_int)))))
theorem ok_ffour (Fx : Fcts g mg) (D : DefF g mg "_law_four" s_ffour ["_law_script", "_law_k"])
    (h_fbase : Has P w g mg base "_law_base" 1 1 [] m_fbase)
    (h_fcell : Has P w g mg base "_law_cell" 1 2 [] m_fcell)
    (h_fshift : Has P w g mg base "_law_shift" 1 1 [] m_fshift) : Has P w g mg base "_law_four" 2 2 [] m_ffour :=
  has_of (N := N_ffour) D sc_ffour rfl fun f cdv A outer s H E hr =>
    (ss_cons (s_set (i := 2) sc_ffour.nd rfl (by first | exact Or.inl rfl | exact Or.inr rfl) (e_callH rfl h_fbase (hr.mono (by decide)) (takes_of rfl rfl rfl rfl) rfl (a_cons (e_callH rfl h_fcell (hr.mono (by decide)) (takes_of rfl rfl rfl rfl) rfl (a_cons (e_var (pv 0)) (a_cons (e_var (pv 1)) a_nil)) (ags_cons (ags_cons ags_nil)) rfl) a_nil) (ags_cons ags_nil) rfl))
    (ss_cons (s_set (i := 3) sc_ffour.nd rfl (by first | exact Or.inl rfl | exact Or.inr rfl) (e_op op_addT ops_addT (e_var (pv 2)) (e_callH rfl h_fshift (hr.mono (by decide)) (takes_of rfl rfl rfl rfl) rfl (a_cons (e_callH rfl h_fcell (hr.mono (by decide)) (takes_of rfl rfl rfl rfl) rfl (a_cons (e_var (pv 0)) (a_cons (e_op op_addT ops_addT (e_var (pv 1)) e_int) a_nil)) (ags_cons (ags_cons ags_nil)) rfl) a_nil) (ags_cons ags_nil) rfl)))
    (ss_cons (s_set (i := 4) sc_ffour.nd rfl (by first | exact Or.inl rfl | exact Or.inr rfl) (e_op op_sub ops_sub (e_op op_addT ops_addT (e_var (pv 2)) (e_callH rfl h_fshift (hr.mono (by decide)) (takes_of rfl rfl rfl rfl) rfl (a_cons (e_callH rfl h_fcell (hr.mono (by decide)) (takes_of rfl rfl rfl rfl) rfl (a_cons (e_var (pv 0)) (a_cons (e_op op_addT ops_addT (e_var (pv 1)) e_int) a_nil)) (ags_cons (ags_cons ags_nil)) rfl) a_nil) (ags_cons ags_nil) rfl)) e_int))
    (ss_one (s_ret (e_tup (a_cons (e_var (pv 2)) (a_cons (e_var (pv 3)) (a_cons (e_var (pv 4)) (a_cons (e_op op_addT ops_addT (e_var (pv 4)) (e_callH rfl h_fshift (hr.mono (by decide)) (takes_of rfl rfl rfl rfl) rfl (a_cons (e_callH rfl h_fcell (hr.mono (by decide)) (takes_of rfl rfl rfl rfl) rfl (a_cons (e_var (pv 0)) (a_cons (e_op op_addT ops_addT (e_var (pv 1)) e_int) a_nil)) (ags_cons (ags_cons ags_nil)) rfl) a_nil) (ags_cons ags_nil) rfl)) a_nil))))))))))
theorem ok_fInterval_eq (Fx : Fcts g mg) (D : MthF g kInterval "__eq__" "Interval.__eq__" s_fInterval_eq ["self", "other"]) : HasM P w g mg base kInterval "__eq__" 1 2 m_fInterval_eq :=
  hasM_of (N := N_fInterval_eq) D sc_fInterval_eq rfl fun f cdv A outer s H E hr =>
    (ss_cons (s_if (b_not (b_tru rfl (e_isI rfl rfl Fx.b_isinstance Fx.ocI.cl Fx.siI (pe_glob rfl Fx.mgI rfl) (e_var (pv 1)))))
    (ss_one s_any)
    ss_nil)
    (ss_one (s_ret (e_cmp (op_eqD hr.units) ops_eq (e_tup (a_cons (e_slt rfl Fx.ocI.cl Fx.sl0 (e_var (pv 0))) (a_cons (e_slt rfl Fx.ocI.cl Fx.sl1 (e_var (pv 0))) a_nil))) (e_tup (a_cons (e_slt rfl Fx.ocI.cl Fx.sl0 (e_var (pv 1))) (a_cons (e_slt rfl Fx.ocI.cl Fx.sl1 (e_var (pv 1))) a_nil))) (nomark _)))))
theorem ok_fInterval_lt (Fx : Fcts g mg) (D : MthF g kInterval "__lt__" "Interval.__lt__" s_fInterval_lt ["self", "other"]) : HasM P w g mg base kInterval "__lt__" 1 2 m_fInterval_lt :=
  hasM_of (N := N_fInterval_lt) D sc_fInterval_lt rfl fun f cdv A outer s H E hr =>
    (ss_cons (s_if (b_not (b_tru rfl (e_isI rfl rfl Fx.b_isinstance Fx.ocI.cl Fx.siI (pe_glob rfl Fx.mgI rfl) (e_var (pv 1)))))
    (ss_one s_any)
    ss_nil)
    (ss_one (s_ret (e_cmp (op_ltT hr.units0) ops_ltT (e_tup (a_cons (e_slt rfl Fx.ocI.cl Fx.sl0 (e_var (pv 0))) (a_cons (e_slt rfl Fx.ocI.cl Fx.sl1 (e_var (pv 0))) a_nil))) (e_tup (a_cons (e_slt rfl Fx.ocI.cl Fx.sl0 (e_var (pv 1))) (a_cons (e_slt rfl Fx.ocI.cl Fx.sl1 (e_var (pv 1))) a_nil))) (nomark _)))))
theorem ok_fInterval_le (Fx : Fcts g mg) (D : MthF g kInterval "__le__" "Interval.__le__" s_fInterval_le ["self", "other"]) : HasM P w g mg base kInterval "__le__" 1 2 m_fInterval_le :=
  hasM_of (N := N_fInterval_le) D sc_fInterval_le rfl fun f cdv A outer s H E hr =>
    (ss_cons (s_if (b_not (b_tru rfl (e_isI rfl rfl Fx.b_isinstance Fx.ocI.cl Fx.siI (pe_glob rfl Fx.mgI rfl) (e_var (pv 1)))))
    (ss_one s_any)
    ss_nil)
    (ss_one (s_ret (e_cmp (op_leT hr.units0) ops_leT (e_tup (a_cons (e_slt rfl Fx.ocI.cl Fx.sl0 (e_var (pv 0))) (a_cons (e_slt rfl Fx.ocI.cl Fx.sl1 (e_var (pv 0))) a_nil))) (e_tup (a_cons (e_slt rfl Fx.ocI.cl Fx.sl0 (e_var (pv 1))) (a_cons (e_slt rfl Fx.ocI.cl Fx.sl1 (e_var (pv 1))) a_nil))) (nomark _)))))
theorem ok_fInterval_cut (Fx : Fcts g mg) (D : MthF g kInterval "cut" "Interval.cut" s_fInterval_cut ["self", "at"])
    (h_Interval : HasIv P w g mg base) : HasM P w g mg base kInterval "cut" 3 2 m_fInterval_cut :=
  hasM_of (N := N_fInterval_cut) D sc_fInterval_cut rfl fun f cdv A outer s H E hr =>
    (ss_cons (s_if (b_not (b_chain op_lt op_lt ops_lt ops_lt (e_slt rfl Fx.ocI.cl Fx.sl0 (e_var (pv 0))) (e_var (pv 1)) (e_slt rfl Fx.ocI.cl Fx.sl1 (e_var (pv 0)))))
    (ss_one (s_raise rfl rfl (takes_of rfl rfl rfl rfl) Fx.xm_BadPlace rfl))
    ss_nil)
    (ss_one (s_ret (e_tup (a_cons (e_mkIvH rfl h_Interval (hr.mono (by decide)) rfl (a_cons (e_slt rfl Fx.ocI.cl Fx.sl0 (e_var (pv 0))) (a_cons (e_var (pv 1)) a_nil))) (a_cons (e_mkIvH rfl h_Interval (hr.mono (by decide)) rfl (a_cons (e_var (pv 1)) (a_cons (e_slt rfl Fx.ocI.cl Fx.sl1 (e_var (pv 0))) a_nil))) a_nil))))))
theorem ok_fwhole (Fx : Fcts g mg) (D : DefF g mg "_law_whole" s_fwhole ["_law_number"]) : Has P w g mg base "_law_whole" 1 1 [] m_fwhole :=
  has_of (N := N_fwhole) D sc_fwhole rfl fun f cdv A outer s H E hr =>
    (ss_one (s_ret (e_and (e_isT (n := .int) rfl rfl Fx.b_isinstance (pe_bltn rfl Fx.b_int (by decide +kernel) rfl) (e_var (pv 0))) (e_one (e_not (e_isT (n := .bool) rfl rfl Fx.b_isinstance (pe_bltn rfl Fx.b_bool (by decide +kernel) rfl) (e_var (pv 0))))))))
theorem ok_ffields (Fx : Fcts g mg) (D : DefF g mg "_law_fields" s_ffields ["_law_interval", "_law_start", "_law_stop"])
    (h_fwhole : Has P w g mg base "_law_whole" 1 1 [] m_fwhole) : Has P w g mg base "_law_fields" 2 3 [] m_ffields :=
  has_of (N := N_ffields) D sc_ffields rfl fun f cdv A outer s H E hr =>
    (ss_cons (s_if (b_w (w_or (b_not (b_tru rfl (e_isI rfl rfl Fx.b_isinstance Fx.ocI.cl Fx.siI (pe_glob rfl Fx.mgI rfl) (e_var (pv 0))))) (w_or (b_not (b_tru rfl (e_callH rfl h_fwhole (hr.mono (by decide)) (takes_of rfl rfl rfl rfl) rfl (a_cons (e_slt rfl Fx.ocI.cl Fx.sl0 (e_var (pv 0))) a_nil) (ags_cons ags_nil) rfl))) (w_or1 (b_not (b_tru rfl (e_callH rfl h_fwhole (hr.mono (by decide)) (takes_of rfl rfl rfl rfl) rfl (a_cons (e_slt rfl Fx.ocI.cl Fx.sl1 (e_var (pv 0))) a_nil) (ags_cons ags_nil) rfl)))))))
    (ss_one (s_ret e_bl))
    ss_nil)
    (ss_cons (s_if (b_cmp op_lt ops_lt (e_var (pv 1)) (e_var (pv 2)) (nomark _))
    (ss_one (s_ret (e_and (e_cmp (op_eqD hr.units) ops_eq (e_slt rfl Fx.ocI.cl Fx.sl0 (e_var (pv 0))) (e_var (pv 1)) (nomark _)) (e_one (e_cmp (op_eqD hr.units) ops_eq (e_slt rfl Fx.ocI.cl Fx.sl1 (e_var (pv 0))) (e_var (pv 2)) (nomark _))))))
    ss_nil)
    (ss_one (s_ret (e_and (e_cmp (op_eqD hr.units) ops_eq (e_slt rfl Fx.ocI.cl Fx.sl0 (e_var (pv 0))) e_int (nomark _)) (e_one (e_cmp (op_eqD hr.units) ops_eq (e_slt rfl Fx.ocI.cl Fx.sl1 (e_var (pv 0))) e_int (nomark _))))))))
theorem ok_frefused (Fx : Fcts g mg) (D : DefF g mg "_law_refused" s_frefused ["_law_interval", "_law_at"])
    (h_fInterval_cut : HasM P w g mg base kInterval "cut" 3 2 m_fInterval_cut) : Has P w g mg base "_law_refused" 4 2 [] m_frefused :=
  has_of (N := N_frefused) D sc_frefused rfl fun f cdv A outer s H E hr =>
    (ss_cons (s_tryE rfl rfl rfl sc_frefused.nd (takes_of rfl rfl rfl rfl) (fun W pn xe tk po => (ss_one (s_expr (e_mth rfl Fx.ocI.cl h_fInterval_cut (hr.mono (by decide)) tk (e_var (pv 0)) (a_cons (e_var (pv 1)) a_nil) (ags_cons ags_nil) rfl))))
    (h_plain rfl Fx.xh_Apart.1.mgx (exm_m Fx.xh_Apart.1.sub Fx.xh_Apart.2 Fx.xh_Apart.1.ty (fa_cons Fx.sub_BadPlace_Apart fa_nil))
    (fun ad ob cl dd pn hz hf => (ss_one (s_ret e_bl)))
    (h_named (i := 2) rfl Fx.xh_CutError.1.mgx rfl rfl (exm_m Fx.xh_CutError.1.sub Fx.xh_CutError.2 Fx.xh_CutError.1.ty (fa_cons Fx.sub_BadPlace_CutError fa_nil))
    (fun ad ob cl dd pn hz hf => (ss_one (s_ret (e_and (e_isE (i := 2) (v := .ref (g.cs kBadPlace)) (cv := .ref (g.cs kBadPlace)) rfl hz hf rfl Fx.b_isinstance (pv 2) (pe_glob rfl Fx.mg_BadPlace rfl) (fun _ h => h) (fa_cons ⟨Fx.xc_BadPlace, Fx.kit_BadPlace_BadPlace⟩ fa_nil)) (e_one (e_isE (i := 2) (v := .ty "ValueError") (cv := .type "ValueError") rfl hz hf rfl Fx.b_isinstance (pv 2) (pe_bltn rfl Fx.b_ValueError (by decide +kernel) rfl) (fun _ h => h) (fa_cons ⟨Fx.xc_BadPlace, Fx.kit_BadPlace_ValueError⟩ fa_nil)))))))
    h_nil)))
    (ss_one (s_ret e_bl)))
theorem ok_qlaw {f : Addr} {fd : FuncData} (Fx : Fcts g mg) (F : L2.Fun g.K "law" "law" s_qlaw f fd)
    (h_Interval : HasIv P w g mg base)
    (h_fcell : Has P w g mg base "_law_cell" 1 2 [] m_fcell)
    (h_ffields : Has P w g mg base "_law_fields" 2 3 [] m_ffields)
    (h_ffour : Has P w g mg base "_law_four" 2 2 [] m_ffour)
    (h_frefused : Has P w g mg base "_law_refused" 4 2 [] m_frefused)
    (h_fInterval_eq : HasM P w g mg base kInterval "__eq__" 1 2 m_fInterval_eq)
    (h_fInterval_le : HasM P w g mg base kInterval "__le__" 1 2 m_fInterval_le)
    (h_fInterval_lt : HasM P w g mg base kInterval "__lt__" 1 2 m_fInterval_lt)
    (h_fInterval_cut : HasM P w g mg base kInterval "cut" 3 2 m_fInterval_cut) : FnOk P w g.K mg base (L2.CX P w) 5 f fd ["_law_script"] (spOf g 1 m_qlaw) :=
  fn_ok (N := N_qlaw) F sc_qlaw rfl fun cdv A outer s H E hr =>
    (ss_cons (s_set (i := 1) sc_qlaw.nd rfl (by first | exact Or.inl rfl | exact Or.inr rfl) (e_callH rfl h_ffour (hr.mono (by decide)) (takes_of rfl rfl rfl rfl) rfl (a_cons (e_var (pv 0)) (a_cons e_int a_nil)) (ags_cons (ags_cons ags_nil)) rfl))
    (ss_cons (s_set (i := 2) sc_qlaw.nd rfl (by first | exact Or.inl rfl | exact Or.inr rfl) (e_ix rfl (e_var (pv 1)) (e_op op_modN ops_mod (e_callH rfl h_fcell (hr.mono (by decide)) (takes_of rfl rfl rfl rfl) rfl (a_cons (e_var (pv 0)) (a_cons e_int a_nil)) (ags_cons (ags_cons ags_nil)) rfl) e_int) (fun _ _ => rfl)))
    (ss_cons (s_set (i := 3) sc_qlaw.nd rfl (by first | exact Or.inl rfl | exact Or.inr rfl) (e_lst (a_cons (e_tup (a_cons (e_ix rfl (e_var (pv 1)) e_int (fun _ _ => rfl)) (a_cons (e_ix rfl (e_var (pv 1)) e_int (fun _ _ => rfl)) a_nil))) (a_cons (e_tup (a_cons (e_ix rfl (e_var (pv 1)) e_int (fun _ _ => rfl)) (a_cons (e_ix rfl (e_var (pv 1)) e_int (fun _ _ => rfl)) a_nil))) (a_cons (e_tup (a_cons (e_var (pv 2)) (a_cons (e_ix rfl (e_var (pv 1)) (e_op op_modN ops_mod (e_callH rfl h_fcell (hr.mono (by decide)) (takes_of rfl rfl rfl rfl) rfl (a_cons (e_var (pv 0)) (a_cons e_int a_nil)) (ags_cons (ags_cons ags_nil)) rfl) e_int) (fun _ _ => rfl)) a_nil))) a_nil)))))
    (ss_cons (by first | exact s_setLc (i := 4) (own := [("_law_pair", 5)]) rfl sc_qlaw.nd rfl rfl (sw_true rfl rfl rfl (by decide +kernel)) (i_nm rfl (pv 3)) (blkOk_by (N := N_qlaw) (sc := defScope s_qlaw) (by decide +kernel)) (fun _ _ _ _ _ => (g_nm sc_qlaw.nd rfl (by first | exact Or.inl rfl | exact Or.inr rfl))) (fun _ _ _ _ _ => bs_nil) (fun _ _ _ _ _ => (e_mkIvH rfl h_Interval (hr.mono (by decide)) rfl (a_cons (e_ix rfl (e_var (pv 5)) e_int (fun _ _ => rfl)) (a_cons (e_ix rfl (e_var (pv 5)) e_int (fun _ _ => rfl)) a_nil)))) | exact s_set (i := 4) sc_qlaw.nd rfl (by first | exact Or.inl rfl | exact Or.inr rfl) (e_lc (own := [("_law_pair", 5)]) rfl sc_qlaw.nd (i_nm rfl (pv 3)) (blkOk_by (N := N_qlaw) (sc := defScope s_qlaw) (by decide +kernel)) (fun _ _ _ _ _ => (g_nm sc_qlaw.nd rfl (by first | exact Or.inl rfl | exact Or.inr rfl))) (fun _ _ _ _ _ => bs_nil) (fun _ _ _ _ _ => (e_mkIvH rfl h_Interval (hr.mono (by decide)) rfl (a_cons (e_ix rfl (e_var (pv 5)) e_int (fun _ _ => rfl)) (a_cons (e_ix rfl (e_var (pv 5)) e_int (fun _ _ => rfl)) a_nil))))))
    (ss_cons (by first | exact s_setLc (i := 6) (own := [("_law_pair", 5)]) rfl sc_qlaw.nd rfl rfl (sw_true rfl rfl rfl (by decide +kernel)) (i_nm rfl (pv 3)) (blkOk_by (N := N_qlaw) (sc := defScope s_qlaw) (by decide +kernel)) (fun _ _ _ _ _ => (g_nm sc_qlaw.nd rfl (by first | exact Or.inl rfl | exact Or.inr rfl))) (fun _ _ _ _ _ => bs_nil) (fun _ _ _ _ _ => (e_if (b_cmp op_lt ops_lt (e_ix rfl (e_var (pv 5)) e_int (fun _ _ => rfl)) (e_ix rfl (e_var (pv 5)) e_int (fun _ _ => rfl)) (nomark _)) (e_var (pv 5)) (e_tup (a_cons e_int (a_cons e_int a_nil))))) | exact s_set (i := 6) sc_qlaw.nd rfl (by first | exact Or.inl rfl | exact Or.inr rfl) (e_lc (own := [("_law_pair", 5)]) rfl sc_qlaw.nd (i_nm rfl (pv 3)) (blkOk_by (N := N_qlaw) (sc := defScope s_qlaw) (by decide +kernel)) (fun _ _ _ _ _ => (g_nm sc_qlaw.nd rfl (by first | exact Or.inl rfl | exact Or.inr rfl))) (fun _ _ _ _ _ => bs_nil) (fun _ _ _ _ _ => (e_if (b_cmp op_lt ops_lt (e_ix rfl (e_var (pv 5)) e_int (fun _ _ => rfl)) (e_ix rfl (e_var (pv 5)) e_int (fun _ _ => rfl)) (nomark _)) (e_var (pv 5)) (e_tup (a_cons e_int (a_cons e_int a_nil)))))))
    (ss_cons (s_for (vs := [7]) (passes_of rfl) rfl (i_rng1 rfl Fx.b_range (a_cons e_int a_nil)) (g_nm sc_qlaw.nd rfl (by first | exact Or.inl rfl | exact Or.inr rfl))
    (ss_one (s_for (vs := [8]) (passes_of rfl) rfl (i_rng1 rfl Fx.b_range (a_cons e_int a_nil)) (g_nm sc_qlaw.nd rfl (by first | exact Or.inl rfl | exact Or.inr rfl))
    (ss_cons (s_if (b_w (w_or (b_cmp (op_neD hr.units) ops_ne (e_cmpOwn rfl Fx.ocI h_fInterval_eq (hr.mono (by decide)) (takes_of rfl rfl rfl rfl) (e_ix rfl (e_var (pv 4)) (e_var (pv 7)) (fun _ _ => rfl)) (e_ix rfl (e_var (pv 4)) (e_var (pv 8)) (fun _ _ => rfl))) (e_cmp (op_eqD hr.units) ops_eq (e_ix rfl (e_var (pv 6)) (e_var (pv 7)) (fun _ _ => rfl)) (e_ix rfl (e_var (pv 6)) (e_var (pv 8)) (fun _ _ => rfl)) (nomark _)) (nomark _)) (w_or1 (b_cmp (op_neD hr.units) ops_ne (e_neOwn rfl Fx.ocI Fx.neI h_fInterval_eq (hr.mono (by decide)) (takes_of rfl rfl rfl rfl) (e_ix rfl (e_var (pv 4)) (e_var (pv 7)) (fun _ _ => rfl)) (e_ix rfl (e_var (pv 4)) (e_var (pv 8)) (fun _ _ => rfl))) (e_cmp (op_neD hr.units) ops_ne (e_ix rfl (e_var (pv 6)) (e_var (pv 7)) (fun _ _ => rfl)) (e_ix rfl (e_var (pv 6)) (e_var (pv 8)) (fun _ _ => rfl)) (nomark _)) (nomark _)))))
    (ss_one (s_ret e_bl))
    ss_nil)
    (ss_one (s_if (b_w (w_or (b_cmp (op_neD hr.units) ops_ne (e_cmpOwn rfl Fx.ocI h_fInterval_lt (hr.mono (by decide)) (takes_of rfl rfl rfl rfl) (e_ix rfl (e_var (pv 4)) (e_var (pv 7)) (fun _ _ => rfl)) (e_ix rfl (e_var (pv 4)) (e_var (pv 8)) (fun _ _ => rfl))) (e_cmp (op_ltT hr.units0) ops_ltT (e_ix rfl (e_var (pv 6)) (e_var (pv 7)) (fun _ _ => rfl)) (e_ix rfl (e_var (pv 6)) (e_var (pv 8)) (fun _ _ => rfl)) (nomark _)) (nomark _)) (w_or1 (b_cmp (op_neD hr.units) ops_ne (e_cmpOwn rfl Fx.ocI h_fInterval_le (hr.mono (by decide)) (takes_of rfl rfl rfl rfl) (e_ix rfl (e_var (pv 4)) (e_var (pv 7)) (fun _ _ => rfl)) (e_ix rfl (e_var (pv 4)) (e_var (pv 8)) (fun _ _ => rfl))) (e_cmp (op_leT hr.units0) ops_leT (e_ix rfl (e_var (pv 6)) (e_var (pv 7)) (fun _ _ => rfl)) (e_ix rfl (e_var (pv 6)) (e_var (pv 8)) (fun _ _ => rfl)) (nomark _)) (nomark _)))))
    (ss_one (s_ret e_bl))
    ss_nil))))))
    (ss_cons (s_set (i := 9) sc_qlaw.nd rfl (by first | exact Or.inl rfl | exact Or.inr rfl) (e_blt (call_max2 rfl) cals_max2 rfl Fx.b_max PyProof.Rows.boot_max (a_cons e_int (a_cons (e_op op_addT ops_addT (e_op op_sub ops_sub (e_ix rfl (e_var (pv 1)) e_int (fun _ _ => rfl)) (e_ix rfl (e_var (pv 1)) e_int (fun _ _ => rfl))) e_int) a_nil))))
    (ss_cons (s_for (vs := [10]) (passes_of rfl) rfl (i_seq rfl (e_lst (a_cons (e_op op_addT ops_addT (e_ix rfl (e_var (pv 1)) e_int (fun _ _ => rfl)) (e_op op_modN ops_mod (e_callH rfl h_fcell (hr.mono (by decide)) (takes_of rfl rfl rfl rfl) rfl (a_cons (e_var (pv 0)) (a_cons e_int a_nil)) (ags_cons (ags_cons ags_nil)) rfl) (e_var (pv 9)))) (a_cons (e_ix rfl (e_var (pv 1)) e_int (fun _ _ => rfl)) (a_cons (e_op op_addT ops_addT (e_ix rfl (e_var (pv 1)) e_int (fun _ _ => rfl)) e_int) (a_cons (e_op op_sub ops_sub (e_ix rfl (e_var (pv 1)) e_int (fun _ _ => rfl)) e_int) (a_cons (e_ix rfl (e_var (pv 1)) e_int (fun _ _ => rfl)) a_nil))))))) (g_nm sc_qlaw.nd rfl (by first | exact Or.inl rfl | exact Or.inr rfl))
    (ss_one (s_if (b_w (w_and (b_cmp op_lt ops_lt (e_ix rfl (e_var (pv 1)) e_int (fun _ _ => rfl)) (e_var (pv 10)) (nomark _)) (w_and1 (b_cmp op_lt ops_lt (e_var (pv 10)) (e_ix rfl (e_var (pv 1)) e_int (fun _ _ => rfl)) (nomark _)))))
    (ss_cons (s_set (i := 11) sc_qlaw.nd rfl (by first | exact Or.inl rfl | exact Or.inr rfl) (e_mth rfl Fx.ocI.cl h_fInterval_cut (hr.mono (by decide)) (takes_of rfl rfl rfl rfl) (e_ix rfl (e_var (pv 4)) e_int (fun _ _ => rfl)) (a_cons (e_var (pv 10)) a_nil) (ags_cons ags_nil) rfl))
    (ss_cons (s_if (b_w (w_or (b_not (b_tru rfl (e_isT (n := .tuple) rfl rfl Fx.b_isinstance (pe_bltn rfl Fx.b_tuple (by decide +kernel) rfl) (e_var (pv 11))))) (w_or1 (b_cmp (op_neD hr.units) ops_ne (e_blt call_len cals_len rfl Fx.b_len PySem.boot_len (a_cons (e_var (pv 11)) a_nil)) e_int (nomark _)))))
    (ss_one (s_ret e_bl))
    ss_nil)
    (ss_one (s_if (b_w (w_or (b_not (b_tru rfl (e_callH rfl h_ffields (hr.mono (by decide)) (takes_of rfl rfl rfl rfl) rfl (a_cons (e_ix rfl (e_var (pv 11)) e_int (fun _ _ => rfl)) (a_cons (e_ix rfl (e_var (pv 1)) e_int (fun _ _ => rfl)) (a_cons (e_var (pv 10)) a_nil))) (ags_cons (ags_cons (ags_cons ags_nil))) rfl))) (w_or1 (b_not (b_tru rfl (e_callH rfl h_ffields (hr.mono (by decide)) (takes_of rfl rfl rfl rfl) rfl (a_cons (e_ix rfl (e_var (pv 11)) e_int (fun _ _ => rfl)) (a_cons (e_var (pv 10)) (a_cons (e_ix rfl (e_var (pv 1)) e_int (fun _ _ => rfl)) a_nil))) (ags_cons (ags_cons (ags_cons ags_nil))) rfl))))))
    (ss_one (s_ret e_bl))
    ss_nil))))
    (ss_one (s_if (b_not (b_tru rfl (e_callH rfl h_frefused (hr.mono (by decide)) (takes_of rfl rfl rfl rfl) rfl (a_cons (e_ix rfl (e_var (pv 4)) e_int (fun _ _ => rfl)) (a_cons (e_var (pv 10)) a_nil)) (ags_cons (ags_cons ags_nil)) rfl)))
    (ss_one (s_ret e_bl))
    ss_nil)))))
    (ss_one (s_ret (e_callH rfl h_ffields (hr.mono (by decide)) (takes_of rfl rfl rfl rfl) rfl (a_cons (e_ix rfl (e_var (pv 4)) e_int (fun _ _ => rfl)) (a_cons (e_ix rfl (e_var (pv 1)) e_int (fun _ _ => rfl)) (a_cons (e_ix rfl (e_var (pv 1)) e_int (fun _ _ => rfl)) a_nil))) (ags_cons (ags_cons (ags_cons ags_nil))) rfl)))))))))))
end
end K03

namespace K03
open PySem L2 EV
set_option maxHeartbeats 8000000 in
theorem all_mk {l : PySem.W.OpenLaw} {w : World} {K : PySem.W.Frag} {h : Heap} {mg : Str → Option Value} {fa C_Interval C_Apart C_BadPlace C_CutError p0 p1 f_fInterval_init f_fbase f_fcell f_fshift f_ffour f_fInterval_eq f_fInterval_lt f_fInterval_le f_fInterval_cut f_fwhole f_ffields f_frefused f_qlaw : Addr}
    {od_fInterval_init an_fInterval_init od_fbase an_fbase od_fcell an_fcell od_fshift an_fshift od_ffour an_ffour od_fInterval_eq an_fInterval_eq od_fInterval_lt an_fInterval_lt od_fInterval_le an_fInterval_le od_fInterval_cut an_fInterval_cut od_fwhole an_fwhole od_ffields an_ffields od_frefused an_frefused od_qlaw an_qlaw : Option Addr} {sl_fInterval_init sl_fbase sl_fcell sl_fshift sl_ffour sl_fInterval_eq sl_fInterval_lt sl_fInterval_le sl_fInterval_cut sl_fwhole sl_ffields sl_frefused sl_qlaw : Array (Option Value)} {oc_fInterval_init kV_fInterval_init dc_fInterval_init pm_fInterval_init cd_fInterval_init ct_fInterval_init oc_fbase kV_fbase dc_fbase pm_fbase cd_fbase ct_fbase oc_fcell kV_fcell dc_fcell pm_fcell cd_fcell ct_fcell oc_fshift kV_fshift dc_fshift pm_fshift cd_fshift ct_fshift oc_ffour kV_ffour dc_ffour pm_ffour cd_ffour ct_ffour oc_fInterval_eq kV_fInterval_eq dc_fInterval_eq pm_fInterval_eq cd_fInterval_eq ct_fInterval_eq oc_fInterval_lt kV_fInterval_lt dc_fInterval_lt pm_fInterval_lt cd_fInterval_lt ct_fInterval_lt oc_fInterval_le kV_fInterval_le dc_fInterval_le pm_fInterval_le cd_fInterval_le ct_fInterval_le oc_fInterval_cut kV_fInterval_cut dc_fInterval_cut pm_fInterval_cut cd_fInterval_cut ct_fInterval_cut oc_fwhole kV_fwhole dc_fwhole pm_fwhole cd_fwhole ct_fwhole oc_ffields kV_ffields dc_ffields pm_ffields cd_ffields ct_ffields oc_frefused kV_frefused dc_frefused pm_frefused cd_frefused ct_frefused oc_qlaw kV_qlaw dc_qlaw pm_qlaw cd_qlaw ct_qlaw : Value}
    (X : K.In h) (G : h.Ns mainGlobals mg) (hfa : mg "law" = some (.ref fa))
    (aC_Interval : PySem.W.nsIn K mainGlobals "Interval" = some (some (.ref C_Interval)))
    (aC_Apart : PySem.W.nsIn K mainGlobals "Apart" = some (some (.ref C_Apart)))
    (aC_BadPlace : PySem.W.nsIn K mainGlobals "BadPlace" = some (some (.ref C_BadPlace)))
    (aC_CutError : PySem.W.nsIn K mainGlobals "CutError" = some (some (.ref C_CutError)))
    (pg : PySem.W.plainGet K C_Interval Str.empty = true)
    (ic : PySem.W.isClsIn K C_Interval = true)
    (po : PySem.W.plainOver K C_Interval = true)
    (sa : PySem.W.findIn K (.ref C_Interval) "__setattr__" = some (some (.builtin "object.__setattr__")))
    (mk : PySem.W.makesIn K C_Interval = true)
    (kc : PySem.W.keepIn K (.ref C_Interval) = true)
    (sf : PySem.W.selfFirst K C_Interval = true)
    (nf : PySem.W.notFirst K C_Interval (.ref C_Interval) = true)
    (sl0a : PySem.W.findIn K (.ref C_Interval) "start" = some (some (.ref p0)))
    (sl0g : PySem.W.specialIn K (.ref p0) "__get__" = some (some (.builtin "member_descriptor.__get__")))
    (sl0t : PySem.W.takesIn K (.ref p0) = some true)
    (sl0y : PySem.W.typeIn K (.ref p0) = some (.type "member_descriptor"))
    (sl0i : PySem.W.slotIn K p0 C_Interval = some 0)
    (sl1a : PySem.W.findIn K (.ref C_Interval) "stop" = some (some (.ref p1)))
    (sl1g : PySem.W.specialIn K (.ref p1) "__get__" = some (some (.builtin "member_descriptor.__get__")))
    (sl1t : PySem.W.takesIn K (.ref p1) = some true)
    (sl1y : PySem.W.typeIn K (.ref p1) = some (.type "member_descriptor"))
    (sl1i : PySem.W.slotIn K p1 C_Interval = some 1)
    (ca : PySem.W.findIn K (.ref C_Interval) "__class__" = some (some (.builtin "object.__class__")))
    (cm : PySem.W.mroIn K C_Interval (.type "object") = some true)
    (nef : PySem.W.findIn K (.ref C_Interval) "__ne__" = some (some (.builtin "object.__ne__")))
    (cn : PySem.W.specialIn K (.builtin "object.__class__") "__get__" = some (some (.builtin "getset_descriptor.__get__")))
    (ct : PySem.W.takesIn K (.builtin "object.__class__") = some true)
    (x1_Apart : PySem.W.subIn K (.ref C_Apart) (.type "BaseException") = some true)
    (x1_BadPlace : PySem.W.subIn K (.ref C_BadPlace) (.type "BaseException") = some true)
    (x1_CutError : PySem.W.subIn K (.ref C_CutError) (.type "BaseException") = some true)
    (x2_Apart : PySem.W.keepIn K (.ref C_Apart) = true)
    (x3_Apart : PySem.W.typeIn K (.ref C_Apart) = some (.type "type"))
    (x2_BadPlace : PySem.W.keepIn K (.ref C_BadPlace) = true)
    (x3_BadPlace : PySem.W.typeIn K (.ref C_BadPlace) = some (.type "type"))
    (x2_CutError : PySem.W.keepIn K (.ref C_CutError) = true)
    (x3_CutError : PySem.W.typeIn K (.ref C_CutError) = some (.type "type"))
    (x4_BadPlace : PySem.W.excIn K C_BadPlace [.type "ValueError", .type "Exception", .type "BaseException", .type "object"] "ValueError.__new__" = true)
    (x5_Apart : PySem.W.hasDictIn K C_Apart = true)
    (x5_BadPlace : PySem.W.hasDictIn K C_BadPlace = true)
    (x5_CutError : PySem.W.hasDictIn K C_CutError = true)
    (x6_BadPlace : PySem.W.findIn K (.ref C_BadPlace) "__getattribute__" = some (some (.builtin "BaseException.__getattribute__")))
    (x7_BadPlace : PySem.W.findIn K (.ref C_BadPlace) "__getattr__" = some none)
    (x8_BadPlace : PySem.W.findIn K (.ref C_BadPlace) "__class__" = some (some (.builtin "object.__class__")))
    (x9_BadPlace : PySem.W.mroIn K C_BadPlace (.type "object") = some true)
    (sub_BadPlace_Apart : PySem.W.subIn K (.ref C_BadPlace) (.ref C_Apart) = some false)
    (sub_BadPlace_CutError : PySem.W.subIn K (.ref C_BadPlace) (.ref C_CutError) = some true)
    (kit_BadPlace_BadPlace : PySem.W.kitOne K (.ref C_BadPlace) (.ref C_BadPlace) = some true)
    (kit_BadPlace_ValueError : PySem.W.kitOne K (.ref C_BadPlace) (.type "ValueError") = some true)
    (b_ValueError : PySem.W.nsIn K mainGlobals "ValueError" = some none)
    (b_bool : PySem.W.nsIn K mainGlobals "bool" = some none)
    (b_int : PySem.W.nsIn K mainGlobals "int" = some none)
    (b_isinstance : PySem.W.nsIn K mainGlobals "isinstance" = some none)
    (b_len : PySem.W.nsIn K mainGlobals "len" = some none)
    (b_max : PySem.W.nsIn K mainGlobals "max" = some none)
    (b_range : PySem.W.nsIn K mainGlobals "range" = some none)
    (b_tuple : PySem.W.nsIn K mainGlobals "tuple" = some none)
    (a_fInterval_init : PySem.W.findIn K (.ref C_Interval) "__init__" = some (some (.ref f_fInterval_init)))
    (i_fInterval_init : PySem.W.isFn K (.ref f_fInterval_init) = true)
    (l_fInterval_init : K.lookup f_fInterval_init = some ⟨oc_fInterval_init, od_fInterval_init, .func (PySem.W.fnOf "__init__" "Interval.__init__" (defArgs s_fInterval_init) (defBody s_fInterval_init) (defScope s_fInterval_init) .none kV_fInterval_init dc_fInterval_init pm_fInterval_init an_fInterval_init cd_fInterval_init ct_fInterval_init), sl_fInterval_init⟩)
    (c_fInterval_init : PySem.W.codeIn K cd_fInterval_init "Interval.__init__" = true)
    (k_fInterval_init : PySem.W.keepIn K (.ref f_fInterval_init) = true)
    (a_fbase : PySem.W.nsIn K mainGlobals "_law_base" = some (some (.ref f_fbase)))
    (l_fbase : K.lookup f_fbase = some ⟨oc_fbase, od_fbase, .func (PySem.W.fnOf "_law_base" "_law_base" (defArgs s_fbase) (defBody s_fbase) (defScope s_fbase) .none kV_fbase dc_fbase pm_fbase an_fbase cd_fbase ct_fbase), sl_fbase⟩)
    (c_fbase : PySem.W.codeIn K cd_fbase "_law_base" = true)
    (k_fbase : PySem.W.keepIn K (.ref f_fbase) = true)
    (a_fcell : PySem.W.nsIn K mainGlobals "_law_cell" = some (some (.ref f_fcell)))
    (l_fcell : K.lookup f_fcell = some ⟨oc_fcell, od_fcell, .func (PySem.W.fnOf "_law_cell" "_law_cell" (defArgs s_fcell) (defBody s_fcell) (defScope s_fcell) .none kV_fcell dc_fcell pm_fcell an_fcell cd_fcell ct_fcell), sl_fcell⟩)
    (c_fcell : PySem.W.codeIn K cd_fcell "_law_cell" = true)
    (k_fcell : PySem.W.keepIn K (.ref f_fcell) = true)
    (a_fshift : PySem.W.nsIn K mainGlobals "_law_shift" = some (some (.ref f_fshift)))
    (l_fshift : K.lookup f_fshift = some ⟨oc_fshift, od_fshift, .func (PySem.W.fnOf "_law_shift" "_law_shift" (defArgs s_fshift) (defBody s_fshift) (defScope s_fshift) .none kV_fshift dc_fshift pm_fshift an_fshift cd_fshift ct_fshift), sl_fshift⟩)
    (c_fshift : PySem.W.codeIn K cd_fshift "_law_shift" = true)
    (k_fshift : PySem.W.keepIn K (.ref f_fshift) = true)
    (a_ffour : PySem.W.nsIn K mainGlobals "_law_four" = some (some (.ref f_ffour)))
    (l_ffour : K.lookup f_ffour = some ⟨oc_ffour, od_ffour, .func (PySem.W.fnOf "_law_four" "_law_four" (defArgs s_ffour) (defBody s_ffour) (defScope s_ffour) .none kV_ffour dc_ffour pm_ffour an_ffour cd_ffour ct_ffour), sl_ffour⟩)
    (c_ffour : PySem.W.codeIn K cd_ffour "_law_four" = true)
    (k_ffour : PySem.W.keepIn K (.ref f_ffour) = true)
    (a_fInterval_eq : PySem.W.findIn K (.ref C_Interval) "__eq__" = some (some (.ref f_fInterval_eq)))
    (i_fInterval_eq : PySem.W.isFn K (.ref f_fInterval_eq) = true)
    (l_fInterval_eq : K.lookup f_fInterval_eq = some ⟨oc_fInterval_eq, od_fInterval_eq, .func (PySem.W.fnOf "__eq__" "Interval.__eq__" (defArgs s_fInterval_eq) (defBody s_fInterval_eq) (defScope s_fInterval_eq) .none kV_fInterval_eq dc_fInterval_eq pm_fInterval_eq an_fInterval_eq cd_fInterval_eq ct_fInterval_eq), sl_fInterval_eq⟩)
    (c_fInterval_eq : PySem.W.codeIn K cd_fInterval_eq "Interval.__eq__" = true)
    (k_fInterval_eq : PySem.W.keepIn K (.ref f_fInterval_eq) = true)
    (a_fInterval_lt : PySem.W.findIn K (.ref C_Interval) "__lt__" = some (some (.ref f_fInterval_lt)))
    (i_fInterval_lt : PySem.W.isFn K (.ref f_fInterval_lt) = true)
    (l_fInterval_lt : K.lookup f_fInterval_lt = some ⟨oc_fInterval_lt, od_fInterval_lt, .func (PySem.W.fnOf "__lt__" "Interval.__lt__" (defArgs s_fInterval_lt) (defBody s_fInterval_lt) (defScope s_fInterval_lt) .none kV_fInterval_lt dc_fInterval_lt pm_fInterval_lt an_fInterval_lt cd_fInterval_lt ct_fInterval_lt), sl_fInterval_lt⟩)
    (c_fInterval_lt : PySem.W.codeIn K cd_fInterval_lt "Interval.__lt__" = true)
    (k_fInterval_lt : PySem.W.keepIn K (.ref f_fInterval_lt) = true)
    (a_fInterval_le : PySem.W.findIn K (.ref C_Interval) "__le__" = some (some (.ref f_fInterval_le)))
    (i_fInterval_le : PySem.W.isFn K (.ref f_fInterval_le) = true)
    (l_fInterval_le : K.lookup f_fInterval_le = some ⟨oc_fInterval_le, od_fInterval_le, .func (PySem.W.fnOf "__le__" "Interval.__le__" (defArgs s_fInterval_le) (defBody s_fInterval_le) (defScope s_fInterval_le) .none kV_fInterval_le dc_fInterval_le pm_fInterval_le an_fInterval_le cd_fInterval_le ct_fInterval_le), sl_fInterval_le⟩)
    (c_fInterval_le : PySem.W.codeIn K cd_fInterval_le "Interval.__le__" = true)
    (k_fInterval_le : PySem.W.keepIn K (.ref f_fInterval_le) = true)
    (a_fInterval_cut : PySem.W.findIn K (.ref C_Interval) "cut" = some (some (.ref f_fInterval_cut)))
    (i_fInterval_cut : PySem.W.isFn K (.ref f_fInterval_cut) = true)
    (l_fInterval_cut : K.lookup f_fInterval_cut = some ⟨oc_fInterval_cut, od_fInterval_cut, .func (PySem.W.fnOf "cut" "Interval.cut" (defArgs s_fInterval_cut) (defBody s_fInterval_cut) (defScope s_fInterval_cut) .none kV_fInterval_cut dc_fInterval_cut pm_fInterval_cut an_fInterval_cut cd_fInterval_cut ct_fInterval_cut), sl_fInterval_cut⟩)
    (c_fInterval_cut : PySem.W.codeIn K cd_fInterval_cut "Interval.cut" = true)
    (k_fInterval_cut : PySem.W.keepIn K (.ref f_fInterval_cut) = true)
    (a_fwhole : PySem.W.nsIn K mainGlobals "_law_whole" = some (some (.ref f_fwhole)))
    (l_fwhole : K.lookup f_fwhole = some ⟨oc_fwhole, od_fwhole, .func (PySem.W.fnOf "_law_whole" "_law_whole" (defArgs s_fwhole) (defBody s_fwhole) (defScope s_fwhole) .none kV_fwhole dc_fwhole pm_fwhole an_fwhole cd_fwhole ct_fwhole), sl_fwhole⟩)
    (c_fwhole : PySem.W.codeIn K cd_fwhole "_law_whole" = true)
    (k_fwhole : PySem.W.keepIn K (.ref f_fwhole) = true)
    (a_ffields : PySem.W.nsIn K mainGlobals "_law_fields" = some (some (.ref f_ffields)))
    (l_ffields : K.lookup f_ffields = some ⟨oc_ffields, od_ffields, .func (PySem.W.fnOf "_law_fields" "_law_fields" (defArgs s_ffields) (defBody s_ffields) (defScope s_ffields) .none kV_ffields dc_ffields pm_ffields an_ffields cd_ffields ct_ffields), sl_ffields⟩)
    (c_ffields : PySem.W.codeIn K cd_ffields "_law_fields" = true)
    (k_ffields : PySem.W.keepIn K (.ref f_ffields) = true)
    (a_frefused : PySem.W.nsIn K mainGlobals "_law_refused" = some (some (.ref f_frefused)))
    (l_frefused : K.lookup f_frefused = some ⟨oc_frefused, od_frefused, .func (PySem.W.fnOf "_law_refused" "_law_refused" (defArgs s_frefused) (defBody s_frefused) (defScope s_frefused) .none kV_frefused dc_frefused pm_frefused an_frefused cd_frefused ct_frefused), sl_frefused⟩)
    (c_frefused : PySem.W.codeIn K cd_frefused "_law_refused" = true)
    (k_frefused : PySem.W.keepIn K (.ref f_frefused) = true)
    (a_qlaw : PySem.W.nsIn K mainGlobals "law" = some (some (.ref f_qlaw)))
    (l_qlaw : K.lookup f_qlaw = some ⟨oc_qlaw, od_qlaw, .func (PySem.W.fnOf "law" "law" (defArgs s_qlaw) (defBody s_qlaw) (defScope s_qlaw) .none kV_qlaw dc_qlaw pm_qlaw an_qlaw cd_qlaw ct_qlaw), sl_qlaw⟩)
    (c_qlaw : PySem.W.codeIn K cd_qlaw "law" = true)
    (k_qlaw : PySem.W.keepIn K (.ref f_qlaw) = true)
    : ∃ fd : FuncData, (∀ (s : Shared) (v : Value), BindsTo s fd ⟨[v], []⟩ [("_law_script", v)]) ∧ ∀ base : Heap, K.In base → base.Ns mainGlobals mg → FnOk l.prog w K mg base (L2.CX l.prog w) 5 fa fd ["_law_script"] (spLw K) := by
  have e := hfa.symm.trans (PySem.W.mg_of X G a_qlaw)
  cases e
  let g : Gx := ⟨K, (fun n => match n with | 0 => C_Interval | 2 => C_Apart | 3 => C_BadPlace | 1 => C_CutError | _ => 0), none⟩
  have Fx : Fcts g mg := ⟨PySem.W.mg_none_of X G b_ValueError, PySem.W.mg_none_of X G b_bool, PySem.W.mg_none_of X G b_int, PySem.W.mg_none_of X G b_isinstance, PySem.W.mg_none_of X G b_len, PySem.W.mg_none_of X G b_max, PySem.W.mg_none_of X G b_range, PySem.W.mg_none_of X G b_tuple, ⟨⟨pg, ic, po, sa⟩, sf, nf⟩, ⟨p0, sl0a, sl0g, sl0t, sl0y, sl0i, by decide⟩, ⟨p1, sl1a, sl1g, sl1t, sl1y, sl1i, by decide⟩, ⟨ca, cn, ct, cm⟩, PySem.W.mg_of X G aC_Interval, ⟨nef, cm⟩, ⟨⟨PySem.W.mg_of X G aC_BadPlace, x2_BadPlace, x1_BadPlace, x3_BadPlace⟩, x4_BadPlace⟩, ⟨⟨PySem.W.mg_of X G aC_Apart, x2_Apart, x1_Apart, x3_Apart⟩, x5_Apart⟩, ⟨⟨PySem.W.mg_of X G aC_CutError, x2_CutError, x1_CutError, x3_CutError⟩, x5_CutError⟩, ⟨x6_BadPlace, x7_BadPlace, x1_BadPlace, x5_BadPlace, x8_BadPlace, cn, ct, x9_BadPlace⟩, sub_BadPlace_Apart, sub_BadPlace_CutError, kit_BadPlace_BadPlace, kit_BadPlace_ValueError, PySem.W.mg_of X G aC_BadPlace⟩
  refine ⟨PySem.W.fnOf "law" "law" (defArgs s_qlaw) (defBody s_qlaw) (defScope s_qlaw) .none kV_qlaw dc_qlaw pm_qlaw an_qlaw cd_qlaw ct_qlaw, fun s v => .of_eq rfl, fun base _ _ => ?_⟩
  have FI := fun_mk (st := s_fInterval_init) l_fInterval_init c_fInterval_init k_fInterval_init
  have h_Interval : HasIv l.prog w g mg base := ⟨_, _, _, ⟨mk, a_fInterval_init, i_fInterval_init, kc⟩, ok_iv Fx FI, PySem.W.mg_of X G aC_Interval, FI.binds fun _ _ _ _ _ _ us hl => match us, hl with | [_, _, _], _ => rfl⟩
  have h_fbase := ok_fbase (P := l.prog) (w := w) (base := base) Fx (defF_mk (cs := (fun n => match n with | 0 => C_Interval | 2 => C_Apart | 3 => C_BadPlace | 1 => C_CutError | _ => 0)) X G a_fbase l_fbase c_fbase k_fbase (fun _ _ _ _ _ _ us hl => match us, hl with | [_], _ => rfl))
  have h_fcell := ok_fcell (P := l.prog) (w := w) (base := base) Fx (defF_mk (cs := (fun n => match n with | 0 => C_Interval | 2 => C_Apart | 3 => C_BadPlace | 1 => C_CutError | _ => 0)) X G a_fcell l_fcell c_fcell k_fcell (fun _ _ _ _ _ _ us hl => match us, hl with | [_, _], _ => rfl))
  have h_fshift := ok_fshift (P := l.prog) (w := w) (base := base) Fx (defF_mk (cs := (fun n => match n with | 0 => C_Interval | 2 => C_Apart | 3 => C_BadPlace | 1 => C_CutError | _ => 0)) X G a_fshift l_fshift c_fshift k_fshift (fun _ _ _ _ _ _ us hl => match us, hl with | [_], _ => rfl))
  have h_ffour := ok_ffour (P := l.prog) (w := w) (base := base) Fx (defF_mk (cs := (fun n => match n with | 0 => C_Interval | 2 => C_Apart | 3 => C_BadPlace | 1 => C_CutError | _ => 0)) X G a_ffour l_ffour c_ffour k_ffour (fun _ _ _ _ _ _ us hl => match us, hl with | [_, _], _ => rfl)) h_fbase h_fcell h_fshift
  have h_fInterval_eq := ok_fInterval_eq (P := l.prog) (w := w) (base := base) Fx (mthF_mk (cs := (fun n => match n with | 0 => C_Interval | 2 => C_Apart | 3 => C_BadPlace | 1 => C_CutError | _ => 0)) a_fInterval_eq i_fInterval_eq l_fInterval_eq c_fInterval_eq k_fInterval_eq (fun _ _ _ _ _ _ us hl => match us, hl with | [_, _], _ => rfl))
  have h_fInterval_lt := ok_fInterval_lt (P := l.prog) (w := w) (base := base) Fx (mthF_mk (cs := (fun n => match n with | 0 => C_Interval | 2 => C_Apart | 3 => C_BadPlace | 1 => C_CutError | _ => 0)) a_fInterval_lt i_fInterval_lt l_fInterval_lt c_fInterval_lt k_fInterval_lt (fun _ _ _ _ _ _ us hl => match us, hl with | [_, _], _ => rfl))
  have h_fInterval_le := ok_fInterval_le (P := l.prog) (w := w) (base := base) Fx (mthF_mk (cs := (fun n => match n with | 0 => C_Interval | 2 => C_Apart | 3 => C_BadPlace | 1 => C_CutError | _ => 0)) a_fInterval_le i_fInterval_le l_fInterval_le c_fInterval_le k_fInterval_le (fun _ _ _ _ _ _ us hl => match us, hl with | [_, _], _ => rfl))
  have h_fInterval_cut := ok_fInterval_cut (P := l.prog) (w := w) (base := base) Fx (mthF_mk (cs := (fun n => match n with | 0 => C_Interval | 2 => C_Apart | 3 => C_BadPlace | 1 => C_CutError | _ => 0)) a_fInterval_cut i_fInterval_cut l_fInterval_cut c_fInterval_cut k_fInterval_cut (fun _ _ _ _ _ _ us hl => match us, hl with | [_, _], _ => rfl)) h_Interval
  have h_fwhole := ok_fwhole (P := l.prog) (w := w) (base := base) Fx (defF_mk (cs := (fun n => match n with | 0 => C_Interval | 2 => C_Apart | 3 => C_BadPlace | 1 => C_CutError | _ => 0)) X G a_fwhole l_fwhole c_fwhole k_fwhole (fun _ _ _ _ _ _ us hl => match us, hl with | [_], _ => rfl))
  have h_ffields := ok_ffields (P := l.prog) (w := w) (base := base) Fx (defF_mk (cs := (fun n => match n with | 0 => C_Interval | 2 => C_Apart | 3 => C_BadPlace | 1 => C_CutError | _ => 0)) X G a_ffields l_ffields c_ffields k_ffields (fun _ _ _ _ _ _ us hl => match us, hl with | [_, _, _], _ => rfl)) h_fwhole
  have h_frefused := ok_frefused (P := l.prog) (w := w) (base := base) Fx (defF_mk (cs := (fun n => match n with | 0 => C_Interval | 2 => C_Apart | 3 => C_BadPlace | 1 => C_CutError | _ => 0)) X G a_frefused l_frefused c_frefused k_frefused (fun _ _ _ _ _ _ us hl => match us, hl with | [_, _], _ => rfl)) h_fInterval_cut
  exact (ok_qlaw (P := l.prog) (w := w) (base := base) Fx (fun_mk l_qlaw c_qlaw k_qlaw) h_Interval h_fcell h_ffields h_ffour h_frefused h_fInterval_eq h_fInterval_le h_fInterval_lt h_fInterval_cut).imp (law_imp (g := g) law_ok)
end K03

open PySem PySem.W PyProof.Rows in
set_option maxRecDepth 100000 in
set_option maxHeartbeats 0 in
theorem PySem.Challenge.cw_cutproof_k03_interval_order_holds : PySem.Challenge.rw_cutproof_k03_interval_order.Holds := by
  w_on; o_law; k_head; (case hw => w_witness2)
  k_fill
  refine L2.walk_of (l := PySem.Challenge.rw_cutproof_k03_interval_order) (n := 63) (k := 5) (x := "_law_script") (CX := fun w => L2.CX PySem.Challenge.rw_cutproof_k03_interval_order.prog w) (sp := fun w => EV.spLw _) rfl (by decide) rfl ⟨rfl, by decide, by decide⟩ (fun w h Y => PySem.W.kIn_of Y) ?F (fun _ _ a ns hl _ hS => ⟨a, ns, rfl, hS, hl, fun _ => rfl⟩) (fun _ _ _ _ _ z => by obtain ⟨_, _, _, _, _, _, _, _, _, _, _, _, z⟩ := z; exact z)
  case F =>
    intro w mg fa h KX G hmg
    refine' K03.all_mk (l := PySem.Challenge.rw_cutproof_k03_interval_order) KX G hmg ?aC_Interval ?aC_Apart ?aC_BadPlace ?aC_CutError ?pg ?ic ?po ?sa ?mk ?kc ?sf ?nf ?sl0a ?sl0g ?sl0t ?sl0y ?sl0i ?sl1a ?sl1g ?sl1t ?sl1y ?sl1i ?ca ?cm ?nef ?cn ?ct ?x1_Apart ?x1_BadPlace ?x1_CutError ?x2_Apart ?x3_Apart ?x2_BadPlace ?x3_BadPlace ?x2_CutError ?x3_CutError ?x4_BadPlace ?x5_Apart ?x5_BadPlace ?x5_CutError ?x6_BadPlace ?x7_BadPlace ?x8_BadPlace ?x9_BadPlace ?sub_BadPlace_Apart ?sub_BadPlace_CutError ?kit_BadPlace_BadPlace ?kit_BadPlace_ValueError ?b_ValueError ?b_bool ?b_int ?b_isinstance ?b_len ?b_max ?b_range ?b_tuple ?a_fInterval_init ?i_fInterval_init ?l_fInterval_init ?c_fInterval_init ?k_fInterval_init ?a_fbase ?l_fbase ?c_fbase ?k_fbase ?a_fcell ?l_fcell ?c_fcell ?k_fcell ?a_fshift ?l_fshift ?c_fshift ?k_fshift ?a_ffour ?l_ffour ?c_ffour ?k_ffour ?a_fInterval_eq ?i_fInterval_eq ?l_fInterval_eq ?c_fInterval_eq ?k_fInterval_eq ?a_fInterval_lt ?i_fInterval_lt ?l_fInterval_lt ?c_fInterval_lt ?k_fInterval_lt ?a_fInterval_le ?i_fInterval_le ?l_fInterval_le ?c_fInterval_le ?k_fInterval_le ?a_fInterval_cut ?i_fInterval_cut ?l_fInterval_cut ?c_fInterval_cut ?k_fInterval_cut ?a_fwhole ?l_fwhole ?c_fwhole ?k_fwhole ?a_ffields ?l_ffields ?c_ffields ?k_ffields ?a_frefused ?l_frefused ?c_frefused ?k_frefused ?a_qlaw ?l_qlaw ?c_qlaw ?k_qlaw
    (case aC_Interval => k_is)
    (case aC_Apart => k_is)
    (case aC_BadPlace => k_is)
    (case aC_CutError => k_is)
    (case pg => k_is)
    (case ic => k_is)
    (case po => k_is)
    (case sa => k_is)
    (case mk => k_is)
    (case kc => k_is)
    (case sf => k_is)
    (case nf => k_is)
    (case sl0a => k_is)
    (case sl0g => k_is)
    (case sl0t => k_is)
    (case sl0y => k_is)
    (case sl0i => k_is)
    (case sl1a => k_is)
    (case sl1g => k_is)
    (case sl1t => k_is)
    (case sl1y => k_is)
    (case sl1i => k_is)
    (case ca => k_is)
    (case cm => k_is)
    (case nef => k_is)
    (case cn => k_is)
    (case ct => k_is)
    (case x1_Apart => k_is)
    (case x1_BadPlace => k_is)
    (case x1_CutError => k_is)
    (case x2_Apart => k_is)
    (case x3_Apart => k_is)
    (case x2_BadPlace => k_is)
    (case x3_BadPlace => k_is)
    (case x2_CutError => k_is)
    (case x3_CutError => k_is)
    (case x4_BadPlace => k_exc)
    (case x5_Apart => k_is)
    (case x5_BadPlace => k_is)
    (case x5_CutError => k_is)
    (case x6_BadPlace => k_is)
    (case x7_BadPlace => k_is)
    (case x8_BadPlace => k_is)
    (case x9_BadPlace => k_is)
    (case sub_BadPlace_Apart => k_is)
    (case sub_BadPlace_CutError => k_is)
    (case kit_BadPlace_BadPlace => kit_is)
    (case kit_BadPlace_ValueError => kit_is)
    (case b_ValueError => k_is)
    (case b_bool => k_is)
    (case b_int => k_is)
    (case b_isinstance => k_is)
    (case b_len => k_is)
    (case b_max => k_is)
    (case b_range => k_is)
    (case b_tuple => k_is)
    (case a_fInterval_init => k_is)
    (case i_fInterval_init => k_is)
    (case l_fInterval_init => k_is)
    (case c_fInterval_init => k_is)
    (case k_fInterval_init => k_is)
    (case a_fbase => k_is)
    (case l_fbase => k_is)
    (case c_fbase => k_is)
    (case k_fbase => k_is)
    (case a_fcell => k_is)
    (case l_fcell => k_is)
    (case c_fcell => k_is)
    (case k_fcell => k_is)
    (case a_fshift => k_is)
    (case l_fshift => k_is)
    (case c_fshift => k_is)
    (case k_fshift => k_is)
    (case a_ffour => k_is)
    (case l_ffour => k_is)
    (case c_ffour => k_is)
    (case k_ffour => k_is)
    (case a_fInterval_eq => k_is)
    (case i_fInterval_eq => k_is)
    (case l_fInterval_eq => k_is)
    (case c_fInterval_eq => k_is)
    (case k_fInterval_eq => k_is)
    (case a_fInterval_lt => k_is)
    (case i_fInterval_lt => k_is)
    (case l_fInterval_lt => k_is)
    (case c_fInterval_lt => k_is)
    (case k_fInterval_lt => k_is)
    (case a_fInterval_le => k_is)
    (case i_fInterval_le => k_is)
    (case l_fInterval_le => k_is)
    (case c_fInterval_le => k_is)
    (case k_fInterval_le => k_is)
    (case a_fInterval_cut => k_is)
    (case i_fInterval_cut => k_is)
    (case l_fInterval_cut => k_is)
    (case c_fInterval_cut => k_is)
    (case k_fInterval_cut => k_is)
    (case a_fwhole => k_is)
    (case l_fwhole => k_is)
    (case c_fwhole => k_is)
    (case k_fwhole => k_is)
    (case a_ffields => k_is)
    (case l_ffields => k_is)
    (case c_ffields => k_is)
    (case k_ffields => k_is)
    (case a_frefused => k_is)
    (case l_frefused => k_is)
    (case c_frefused => k_is)
    (case k_frefused => k_is)
    (case a_qlaw => k_is)
    (case l_qlaw => k_is)
    (case c_qlaw => k_is)
    (case k_qlaw => k_is)
