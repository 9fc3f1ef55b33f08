import PyProof.Rows.All
import Wide.All
import OpenK.AllK
import Wide.FinOn
import HandS.ForMost
import HandS.Deep
import HandS.IsInst
import HandS.SortInts
import HandS.TupAny
import HandS.TupLe
import HandS.Wide
import HandS.Flow
import HandS.Conv
import KE.DataEq
import KE.DataCmp
import KE.SortData
import KE.DataMinMax
import KE.DataMinKey
import KE.DataIsa
import KE.DataFind
import KE.DataAny
import KE.DatumIndex
import KE.DatumOrd
import HandS.TupMul
import KE.KTupSum
import HandS.Defaults
import HandS.Head0
import HandS.Head1
import HandS.Head2
import HandS.HeadEnd
import HandS.HeadHook1
import HandS.HeadHook2
import HandS.Zip
import HandS.SetFor
import PyProof.TupleOfSeq
import PySem.Challenge.RW_votehall_k60_whole_draws_of_an_audit
set_option Elab.async false
set_option linter.all false
set_option maxRecDepth 100000
namespace Dw
open PySem PySem.Spec PyProof.Rows L2

abbrev D := PyData

/-! ### data in the heap: lists are tracked, tuples tracked or written -/
mutual
inductive Rp (K : PySem.W.Frag) (H : Hp) : V → D → Prop
  | non : Rp K H .non .none
  | bl (b : Bool) : Rp K H (.bl b) (.bool b)
  | int (i : Int) : Rp K H (.int i) (.int i)
  | str (x : Str) : Rp K H (.str x) (.str x)
  | lst {a : Addr} {xs : List V} {ds : List D} : H a = some (.lst xs) → Rps K H xs ds → Rp K H (.ref a) (.list ds)
  | tup {a : Addr} {xs : List V} {ds : List D} : SqT K H a xs → Rps K H xs ds → Rp K H (.ref a) (.tuple ds)
inductive Rps (K : PySem.W.Frag) (H : Hp) : List V → List D → Prop
  | nil : Rps K H [] []
  | cons {v : V} {vs : List V} {d : D} {ds : List D} : Rp K H v d → Rps K H vs ds → Rps K H (v :: vs) (d :: ds)
end

theorem same_sqT {K : PySem.W.Frag} {H H' : Hp} {a : Addr} {xs : List V} (e : Same H H') (h : SqT K H a xs) : SqT K H' a xs := by
  rcases h with (h | ⟨o, h⟩) | h
  · exact .inl (.inl (e _ _ h))
  · exact .inl (.inr ⟨o, e _ _ h⟩)
  · exact .inr h
mutual
theorem Rp.mono {K : PySem.W.Frag} {H H' : Hp} (s : Same H H') : ∀ {d : D} {v : V}, Rp K H v d → Rp K H' v d
  | .none, _, h => by cases h; exact .non
  | .bool _, _, h => by cases h; exact .bl _
  | .int _, _, h => by cases h; exact .int _
  | .str _, _, h => by cases h; exact .str _
  | .list ds, _, h => by
    cases h with
    | lst e a => exact .lst (s _ _ e) (Rps.mono s a)
  | .tuple ds, _, h => by
    cases h with
    | tup e a => exact .tup (same_sqT s e) (Rps.mono s a)
  | .dict _, _, h => by cases h
theorem Rps.mono {K : PySem.W.Frag} {H H' : Hp} (s : Same H H') : ∀ {ds : List D} {vs : List V}, Rps K H vs ds → Rps K H' vs ds
  | [], _, h => by cases h; exact .nil
  | d :: ds, _, h => by
    cases h with
    | cons a b => exact .cons (Rp.mono s a) (Rps.mono s b)
end
mutual
theorem Rp.dp {K : PySem.W.Frag} {H : Hp} : ∀ {d : D} {v : V}, Rp K H v d → Dp K H v d
  | .none, _, h => by cases h; exact .non
  | .bool _, _, h => by cases h; exact .bl _
  | .int _, _, h => by cases h; exact .int _
  | .str _, _, h => by cases h; exact .str _
  | .list ds, _, h => by
    cases h with
    | lst e a => exact .lst (SqL.of e) (Rps.dp a)
  | .tuple ds, _, h => by
    cases h with
    | tup e a => exact .tup e (Rps.dp a)
  | .dict _, _, h => by cases h
theorem Rps.dp {K : PySem.W.Frag} {H : Hp} : ∀ {ds : List D} {vs : List V}, Rps K H vs ds → DpAll K H vs ds
  | [], _, h => by cases h; exact .nil
  | d :: ds, _, h => by
    cases h with
    | cons a b => exact .cons (Rp.dp a) (Rps.dp b)
end
section
variable {K : PySem.W.Frag} {H : Hp}
theorem Rps.length {ds : List D} : ∀ {vs : List V}, Rps K H vs ds → vs.length = ds.length := by
  induction ds with
  | nil => intro vs h; cases h; rfl
  | cons d ds ih => intro vs h; cases h with | cons a b => simp [ih b]
theorem Rps.get {ds : List D} : ∀ {vs : List V} {i : Nat} {d : D}, Rps K H vs ds → ds[i]? = some d → ∃ v, vs[i]? = some v ∧ Rp K H v d := by
  induction ds with
  | nil => intro vs i d h e; simp at e
  | cons d' ds ih =>
    intro vs i d h e
    cases h with
    | @cons v vs' _ _ a b =>
      cases i with
      | zero => simp at e; subst e; exact ⟨v, by simp, a⟩
      | succ i => obtain ⟨u, e1, r⟩ := ih b (by simpa using e); exact ⟨u, by simpa using e1, r⟩
theorem Rps.get' {vs : List V} : ∀ {ds : List D} {i : Nat} {v : V}, Rps K H vs ds → vs[i]? = some v → ∃ d, ds[i]? = some d ∧ Rp K H v d := by
  induction vs with
  | nil => intro ds i v h e; simp at e
  | cons v' vs ih =>
    intro ds i v h e
    cases h with
    | @cons _ _ d ds' a b =>
      cases i with
      | zero => simp at e; subst e; exact ⟨d, by simp, a⟩
      | succ i => obtain ⟨u, e1, r⟩ := ih b (by simpa using e); exact ⟨u, by simpa using e1, r⟩
theorem Rps.append {xs ys : List V} {ds es : List D} (a : Rps K H xs ds) (b : Rps K H ys es) : Rps K H (xs ++ ys) (ds ++ es) := by
  induction ds generalizing xs with
  | nil => cases a; exact b
  | cons d ds ih => cases a with | cons p q => exact .cons p (ih q)
theorem Rps.one {v : V} {d : D} (h : Rp K H v d) : Rps K H [v] [d] := .cons h .nil
theorem Rps.take {ds : List D} : ∀ {vs : List V} (n : Nat), Rps K H vs ds → Rps K H (vs.take n) (ds.take n) := by
  induction ds with
  | nil => intro vs n h; cases h; simp; exact .nil
  | cons d ds ih =>
    intro vs n h
    cases h with
    | cons a b =>
      cases n with
      | zero => simp; exact .nil
      | succ n => simp; exact .cons a (ih n b)
theorem Rps.drop {ds : List D} : ∀ {vs : List V} (n : Nat), Rps K H vs ds → Rps K H (vs.drop n) (ds.drop n) := by
  induction ds with
  | nil => intro vs n h; cases h; simp; exact .nil
  | cons d ds ih =>
    intro vs n h
    cases h with
    | cons a b =>
      cases n with
      | zero => simp; exact .cons a b
      | succ n => simp; exact ih n b
theorem Rps.set {ds : List D} : ∀ {vs : List V} (n : Nat) {v : V} {d : D}, Rps K H vs ds → Rp K H v d → Rps K H (vs.set n v) (ds.set n d) := by
  induction ds with
  | nil => intro vs n v d h r; cases h; simp; exact .nil
  | cons d ds ih =>
    intro vs n v' d' h r
    cases h with
    | cons a b =>
      cases n with
      | zero => simp; exact .cons r b
      | succ n => simp; exact .cons a (ih n b r)
theorem Rps.ints : ∀ {ns : List Int} {vs : List V}, Rps K H vs (ns.map PyData.int) → vs = ns.map V.int
  | [], _, h => by cases h; rfl
  | n :: ns, _, h => by
    cases h with
    | cons a b => cases a; rw [Rps.ints b]; rfl
theorem Rps.bools : ∀ {ns : List Bool} {vs : List V}, Rps K H vs (ns.map PyData.bool) → vs = ns.map V.bl
  | [], _, h => by cases h; rfl
  | n :: ns, _, h => by
    cases h with
    | cons a b => cases a; rw [Rps.bools b]; rfl
theorem Rps.of_ints : ∀ (ns : List Int), Rps K H (ns.map V.int) (ns.map PyData.int)
  | [] => .nil
  | n :: ns => .cons (.int n) (Rps.of_ints ns)
theorem Rp.list_inv {v : V} {ds : List D} (h : Rp K H v (.list ds)) : ∃ a xs, v = .ref a ∧ H a = some (.lst xs) ∧ Rps K H xs ds := by
  cases h with
  | lst e a => exact ⟨_, _, rfl, e, a⟩
theorem Rp.tup_inv {v : V} {ds : List D} (h : Rp K H v (.tuple ds)) : ∃ a xs, v = .ref a ∧ SqT K H a xs ∧ Rps K H xs ds := by
  cases h with
  | tup e a => exact ⟨_, _, rfl, e, a⟩
theorem Rp.int_inv {v : V} {i : Int} (h : Rp K H v (.int i)) : v = .int i := by cases h; rfl
theorem Rp.bool_inv {v : V} {i : Bool} (h : Rp K H v (.bool i)) : v = .bl i := by cases h; rfl
theorem Rp.none_inv {v : V} (h : Rp K H v .none) : v = .non := by cases h; rfl
theorem Rp.str_inv {v : V} {x : Str} (h : Rp K H v (.str x)) : v = .str x := by cases h; rfl
end

/-! ### the heap outside of some addresses -/
def off (Z : List Addr) (H : Hp) : Hp := fun a => if a ∈ Z then none else H a
section
variable {Z Z' : List Addr} {H H' : Hp} {a : Addr} {o : HO}
theorem off_some : off Z H a = some o ↔ a ∉ Z ∧ H a = some o := by
  unfold off; by_cases h : a ∈ Z <;> simp [h]
theorem off_same (h : ∀ x, x ∈ Z' → x ∈ Z) : Same (off Z H) (off Z' H) := fun b o e => by
  rw [off_some] at e ⊢; exact ⟨fun q => e.1 (h _ q), e.2⟩
theorem off_le : Same (off Z H) H := fun b o e => (off_some.mp e).2
theorem same_off (s : Same H H') : Same (off Z H) (off Z H') := fun b o e => by
  rw [off_some] at e ⊢; exact ⟨e.1, s _ _ e.2⟩
theorem same_upd {p : Addr} (h : H p = none) : Same H (upd H p o) := fun b x e => by
  rw [upd_ne (ne_of_none e h)]; exact e
theorem same_off_upd {p : Addr} (h : p ∈ Z ∨ H p = none) : Same (off Z H) (off Z (upd H p o)) := fun b x e => by
  rw [off_some] at e ⊢
  refine ⟨e.1, ?_⟩
  have : b ≠ p := by
    rintro rfl
    rcases h with h | h
    · exact e.1 h
    · rw [h] at e; cases e.2
  rw [upd_ne this]; exact e.2
end

/-! ### the part of the heap that others change -/
structure Wd where
  Z : List Addr
  st : Addr
  R : Hp → Prop
  fr : ∀ H H', R H → (∀ a ∈ Z, H' a = H a) → R H'
  dom : ∀ H, R H → ∀ a ∈ Z, H a ≠ none
structure Stp (w : Wd) (H H' : Hp) : Prop where
  s : Same (off w.Z H) (off w.Z H')
  r : w.R H'
section
variable {w : Wd} {H H1 H2 : Hp}
theorem Stp.refl (r : w.R H) : Stp w H H := ⟨fun _ _ e => e, r⟩
theorem Stp.trans (a : Stp w H H1) (b : Stp w H1 H2) : Stp w H H2 := ⟨a.s.trans b.s, b.r⟩
theorem Stp.laid {p : Addr} {o : HO} (r : w.R H) (h : H p = none) : Stp w H (upd H p o) :=
  ⟨same_off_upd (.inr h), w.fr _ _ r fun a ha => upd_ne fun e => w.dom _ r a ha (e ▸ h)⟩
end

/-- the law's own state: [i, cells], its cells -/
structure StOk (H : Hp) (a c : Addr) (i : Int) (ns : List Int) : Prop where
  i0 : 0 ≤ i
  ne : ns ≠ []
  n0 : ∀ n ∈ ns, 0 ≤ n
  len : ns.length ≤ 63
  ha : H a = some (.lst [.int i, .ref c])
  hc : H c = some (.lst (ns.map V.int))
theorem StOk.ac {H : Hp} {a c : Addr} {i : Int} {ns : List Int} (h : StOk H a c i ns) : a ≠ c := by
  rintro rfl
  have e := h.ha.symm.trans h.hc
  cases ns with
  | nil => simp at e
  | cons n r => cases r with
    | nil => simp at e
    | cons m r => simp at e
structure StW (w : Wd) : Prop where
  get : ∀ H, w.R H → ∃ (c : Addr) (i : Int) (ns : List Int), StOk H w.st c i ns ∧ w.st ∈ w.Z ∧ c ∈ w.Z ∧
    (∀ i', 0 ≤ i' → w.R (upd H w.st (.lst [.int i', .ref c]))) ∧ (∀ ns' : List Int, ns' ≠ [] → (∀ n ∈ ns', 0 ≤ n) → ns'.length ≤ 63 → w.R (upd H c (.lst (ns'.map V.int))))

/-! ### names -/
inductive Ent where
  | d (x : D)
  | st
  | own (ds : List D)
abbrev Env := List (Option Ent)
def EntR (K : PySem.W.Frag) (w : Wd) (O : List Addr) (H : Hp) (v : V) : Ent → Prop
  | .d x => Rp K (off (w.Z ++ O) H) v x
  | .st => v = .ref w.st ∧ StW w
  | .own ds => ∃ p vs, v = .ref p ∧ p ∈ O ∧ H p = some (.lst vs) ∧ Rps K (off (w.Z ++ O) H) vs ds

structure Rep (K : PySem.W.Frag) (w : Wd) (H0 : Hp) (kp : List (V × D)) (O : List Addr) (H : Hp) (σ : L2.St) (ρ : Env) : Prop where
  r : w.R H
  s0 : Same (off w.Z H0) (off w.Z H)
  o0 : ∀ a ∈ O, H0 a = none ∧ a ∉ w.Z
  oS : ∀ a ∈ O, Mut (H a)
  kp : ∀ p ∈ kp, Rp K (off (w.Z ++ O) H) p.1 p.2
  len : ρ.length = σ.length
  var : ∀ (i : Nat) (e : Ent), ρ[i]? = some (some e) → ∃ v, σ[i]? = some (some v) ∧ EntR K w O H v e
  apart : ∀ (i j : Nat) (ds es : List D) (v : V), i ≠ j → ρ[i]? = some (some (.own ds)) → ρ[j]? = some (some (.own es)) → σ[i]? = some (some v) → σ[j]? ≠ some (some v)

section
variable {K : PySem.W.Frag} {w : Wd} {H0 H H' : Hp} {kp : List (V × D)} {O : List Addr} {σ : L2.St} {ρ : Env}
theorem stp_off (rO : ∀ a ∈ O, a ∉ w.Z) (s : Same (off w.Z H) (off w.Z H')) : Same (off (w.Z ++ O) H) (off (w.Z ++ O) H') := fun b o e => by
  rw [off_some] at e ⊢
  have h1 : b ∉ w.Z := fun q => e.1 (List.mem_append_left _ q)
  exact ⟨e.1, (off_some.mp (s b o (off_some.mpr ⟨h1, e.2⟩))).2⟩
theorem Rep.off (rep : Rep K w H0 kp O H σ ρ) (s : Stp w H H') : Same (Dw.off (w.Z ++ O) H) (Dw.off (w.Z ++ O) H') := stp_off (fun a ha => (rep.o0 a ha).2) s.s
theorem Rep.stp (rep : Rep K w H0 kp O H σ ρ) (s : Stp w H H') : Rep K w H0 kp O H' σ ρ := by
  have so := rep.off s
  refine ⟨s.r, rep.s0.trans s.s, rep.o0, fun a ha => ?_, fun p hp => (rep.kp p hp).mono so, rep.len, fun i e h => ?_, rep.apart⟩
  · cases q : H a with
    | none => have := rep.oS a ha; rw [q] at this; exact this.elim
    | some o =>
      have e := (off_some.mp (s.s a o (off_some.mpr ⟨(rep.o0 a ha).2, q⟩))).2
      rw [e, ← q]; exact rep.oS a ha
  obtain ⟨v, h1, h2⟩ := rep.var i e h
  refine ⟨v, h1, ?_⟩
  cases e with
  | d x => exact Rp.mono so h2
  | st => exact h2
  | own ds =>
    obtain ⟨p, vs, e1, e2, e3, e4⟩ := h2
    exact ⟨p, vs, e1, e2, (off_some.mp (s.s p _ (off_some.mpr ⟨(rep.o0 p e2).2, e3⟩))).2, e4.mono so⟩
/-- the owned lists as plain data -/
def peekE : Option Ent → Option Ent
  | some (.own ds) => some (.d (.list ds))
  | e => e
def peek (ρ : Env) : Env := ρ.map peekE
theorem Rep.peek (rep : Rep K w H0 kp O H σ ρ) : Rep K w H0 kp [] H σ (peek ρ) := by
  have so : Same (Dw.off (w.Z ++ O) H) (Dw.off (w.Z ++ []) H) := off_same (by simp; intro x h; exact .inl h)
  refine ⟨rep.r, rep.s0, fun a h => by simp at h, fun a h => by simp at h, fun p hp => (rep.kp p hp).mono so, by simp [Dw.peek, rep.len], fun i e h => ?_, fun i j ds es v _ h => ?_⟩
  · unfold Dw.peek at h
    rw [List.getElem?_map] at h
    cases hq : ρ[i]? with
    | none => rw [hq] at h; simp at h
    | some x =>
      rw [hq] at h
      simp only [Option.map_some, Option.some.injEq] at h
      cases x with
      | none => simp [peekE] at h
      | some y =>
        obtain ⟨v, h1, h2⟩ := rep.var i y hq
        refine ⟨v, h1, ?_⟩
        cases y with
        | d x => simp [peekE] at h; subst h; exact Rp.mono so h2
        | st => simp [peekE] at h; subst h; exact h2
        | own ds =>
          simp [peekE] at h; subst h
          obtain ⟨p, vs, e1, e2, e3, e4⟩ := h2
          rw [e1]
          exact .lst (off_some.mpr ⟨by simp; exact (rep.o0 p e2).2, e3⟩) (e4.mono so)
  · unfold Dw.peek at h
    rw [List.getElem?_map] at h
    cases hq : ρ[i]? with
    | none => rw [hq] at h; simp at h
    | some x =>
      rw [hq] at h
      simp only [Option.map_some, Option.some.injEq] at h
      cases x with
      | none => simp [peekE] at h
      | some y => cases y <;> simp [peekE] at h
end

structure Wok (w : Wd) (O : List Addr) (H : Hp) : Prop where
  r : w.R H
  o : ∀ a ∈ O, a ∉ w.Z ∧ H a ≠ none
theorem Rep.wok {K : PySem.W.Frag} {w : Wd} {H0 H : Hp} {kp : List (V × D)} {O : List Addr} {σ : L2.St} {ρ : Env} (rep : Rep K w H0 kp O H σ ρ) : Wok w O H := ⟨rep.r, fun a ha => ⟨(rep.o0 a ha).2, fun q => by have := rep.oS a ha; rw [q] at this; exact this.elim⟩⟩
section
variable {K : PySem.W.Frag} {w : Wd} {O : List Addr} {H H' : Hp} {p : Addr} {xs : List V} {ds : List D}
theorem Wok.fresh (k : Wok w O H) (h : H p = none) : p ∉ w.Z ++ O := fun q => by
  rcases List.mem_append.mp q with q | q
  · exact w.dom _ k.r p q h
  · exact (k.o p q).2 h
theorem Wok.off (k : Wok w O H) (s : Stp w H H') : Same (Dw.off (w.Z ++ O) H) (Dw.off (w.Z ++ O) H') := stp_off (fun a ha => (k.o a ha).1) s.s
theorem Wok.stp (k : Wok w O H) (s : Stp w H H') : Wok w O H' := ⟨s.r, fun a ha => ⟨(k.o a ha).1, by
  cases q : H a with
  | none => exact absurd q (k.o a ha).2
  | some o =>
    have e := (off_some.mp (s.s a o (off_some.mpr ⟨(k.o a ha).1, q⟩))).2
    rw [e]; simp⟩⟩
theorem Wok.lst (k : Wok w O H) (h : H p = none) (r : Rps K (Dw.off (w.Z ++ O) H) xs ds) : Rp K (Dw.off (w.Z ++ O) (upd H p (.lst xs))) (.ref p) (.list ds) :=
  .lst (off_some.mpr ⟨k.fresh h, upd_same⟩) (r.mono (same_off_upd (.inr h)))
theorem Wok.tup (k : Wok w O H) (h : H p = none) (r : Rps K (Dw.off (w.Z ++ O) H) xs ds) : Rp K (Dw.off (w.Z ++ O) (upd H p (.tup xs))) (.ref p) (.tuple ds) :=
  .tup (.inl (.inl (off_some.mpr ⟨k.fresh h, upd_same⟩))) (r.mono (same_off_upd (.inr h)))
theorem sqT_off {Z : List Addr} {a : Addr} (h : SqT K (Dw.off Z H) a xs) : SqT K H a xs := same_sqT off_le h
end

/-! ### readings -/
abbrev DE := Env → (D → Prop) → Prop
abbrev DT := Env → (Bool → Prop) → Prop
abbrev DA := Env → (List D → Prop) → Prop
def QR (K : PySem.W.Frag) (f : DE) : TE := fun σ H Q => ∃ (w : Wd) (H0 : Hp) (kp : List (V × D)) (O : List Addr) (ρ : Env) (P : D → Prop), Rep K w H0 kp O H σ ρ ∧ f ρ P ∧
  ∀ d v H', P d → Stp w H H' → Rp K (off (w.Z ++ O) H') v d → Q v H'
def QRT (K : PySem.W.Frag) (f : DT) : TT := fun σ H Q => ∃ (w : Wd) (H0 : Hp) (kp : List (V × D)) (O : List Addr) (ρ : Env) (P : Bool → Prop), Rep K w H0 kp O H σ ρ ∧ f ρ P ∧
  ∀ b H', P b → Stp w H H' → Q b H'
def QRA (K : PySem.W.Frag) (f : DA) : TA := fun σ H Q => ∃ (w : Wd) (H0 : Hp) (kp : List (V × D)) (O : List Addr) (ρ : Env) (P : List D → Prop), Rep K w H0 kp O H σ ρ ∧ f ρ P ∧
  ∀ ds vs H', P ds → Stp w H H' → Rps K (off (w.Z ++ O) H') vs ds → Q vs H'
structure QE (X : Cx) (e : Expr) (f : DE) : Prop where
  pe : PE X e (QR X.K f)
structure QT (X : Cx) (e : Expr) (f : DT) : Prop where
  pt : PT X e (QRT X.K f)
structure QW (X : Cx) (e : Expr) (f : DT) : Prop where
  pw : PW X e (QRT X.K f)
structure QA (X : Cx) (es : List Expr) (f : DA) : Prop where
  pa : PA X es (QRA X.K f)
theorem QW.qt {X : Cx} {e : Expr} {f : DT} (h : QW X e f) : QT X e f := ⟨h.pw.pt⟩
section
variable {X : Cx} {e : Expr} {es : List Expr}
theorem pe_imp {t t' : TE} (h : PE X e t) (i : ∀ σ H Q, t' σ H Q → t σ H Q) : PE X e t' := ⟨fun pins s σ H Q I q => h.run pins s σ H Q I (i _ _ _ q)⟩
theorem pt_imp {t t' : TT} (h : PT X e t) (i : ∀ σ H Q, t' σ H Q → t σ H Q) : PT X e t' := ⟨fun pins s σ H Q I q => h.run pins s σ H Q I (i _ _ _ q)⟩
theorem pw_imp {t t' : TT} (h : PW X e t) (i : ∀ σ H Q, t' σ H Q → t σ H Q) : PW X e t' := ⟨fun wh pins s σ H Q I q => h.run wh pins s σ H Q I (i _ _ _ q)⟩
theorem pa_imp {t t' : TA} (h : PA X es t) (i : ∀ σ H Q, t' σ H Q → t σ H Q) : PA X es t' := ⟨fun pos pins s σ H Q I q => h.run pos pins s σ H Q I (i _ _ _ q)⟩
end
section
variable {K : PySem.W.Frag} {w : Wd} {H0 H H' : Hp} {kp : List (V × D)} {O : List Addr} {σ : L2.St} {ρ : Env}
theorem Rep.go {f : DE} {P : D → Prop} {Q : VK} (rep : Rep K w H0 kp O H σ ρ) (h : f ρ P)
    (k : ∀ d v H', P d → Stp w H H' → Rep K w H0 kp O H' σ ρ → Rp K (Dw.off (w.Z ++ O) H') v d → Q v H') : QR K f σ H Q :=
  ⟨w, H0, kp, O, ρ, P, rep, h, fun d v H' p s r => k d v H' p s (rep.stp s) r⟩
theorem Rep.goT {f : DT} {P : Bool → Prop} {Q : Bool → Hp → Prop} (rep : Rep K w H0 kp O H σ ρ) (h : f ρ P)
    (k : ∀ b H', P b → Stp w H H' → Rep K w H0 kp O H' σ ρ → Q b H') : QRT K f σ H Q :=
  ⟨w, H0, kp, O, ρ, P, rep, h, fun d H' p s => k d H' p s (rep.stp s)⟩
theorem Rep.goA {f : DA} {P : List D → Prop} {Q : List V → Hp → Prop} (rep : Rep K w H0 kp O H σ ρ) (h : f ρ P)
    (k : ∀ ds vs H', P ds → Stp w H H' → Rep K w H0 kp O H' σ ρ → Rps K (Dw.off (w.Z ++ O) H') vs ds → Q vs H') : QRA K f σ H Q :=
  ⟨w, H0, kp, O, ρ, P, rep, h, fun d v H' p s r => k d v H' p s (rep.stp s) r⟩
end
end Dw

namespace Dw
open PySem PySem.Spec PyProof.Rows L2

section
variable {X : Cx} {pins : List (Addr × Obj)} {σ : L2.St} {H : Hp} {s : Shared}
mutual
theorem Rp.plain {K : PySem.W.Frag} : ∀ {d : D} {v : V}, Rp K H v d → d.plain = true
  | .none, _, _ => rfl
  | .bool _, _, _ => rfl
  | .int _, _, _ => rfl
  | .str _, _, _ => rfl
  | .list ds, _, h => by cases h with | lst e a => exact Rps.plain a
  | .tuple ds, _, h => by cases h with | tup e a => exact Rps.plain a
  | .dict _, _, h => by cases h
theorem Rps.plain {K : PySem.W.Frag} : ∀ {ds : List D} {vs : List V}, Rps K H vs ds → PyData.plainAll ds = true
  | [], _, _ => rfl
  | d :: ds, _, h => by
    cases h with
    | cons a b => show (d.plain && PyData.plainAll ds) = true; rw [Rp.plain a, Rps.plain b]; rfl
end
theorem Inv.reads (I : Inv X pins σ H s) {Z : List Addr} {x : V} {v : Value} {d : D} (rx : RelV x v) (r : Rp X.K (off Z H) x d) : ∃ as, Reads s.heap v d as :=
  Dp.reads I d x v (Rp.dp (r.mono off_le)) rx
theorem Inv.readsAll (I : Inv X pins σ H s) {Z : List Addr} {xs : List V} {vs : List Value} {ds : List D} (rx : Vals xs vs) (r : Rps X.K (off Z H) xs ds) : ∃ as, ReadsAll s.heap vs ds as :=
  Dp.readsAll I ds xs vs (Rps.dp (r.mono off_le)) rx
end

/-! ### two-place operations -/
abbrev G2 := D → D → (D → Prop) → Prop
abbrev G1 := D → (D → Prop) → Prop
abbrev GL := List D → (D → Prop) → Prop
def OpD (X : Cx) (f : Value → Value → Sem Value) (g : G2) : Prop :=
  ∀ (pins : List (Addr × Obj)) (s : Shared) (σ : L2.St) (H : Hp) (x y : V) (v u : Value) (w : Wd) (O : List Addr) (dx dy : D) (P : D → Prop) (Q : VK), Inv X pins σ H s → RelV x v → RelV y u → Wok w O H →
    Rp X.K (off (w.Z ++ O) H) x dx → Rp X.K (off (w.Z ++ O) H) y dy → g dx dy P → (∀ d v H', P d → Stp w H H' → Rp X.K (off (w.Z ++ O) H') v d → Q v H') →
    wpAny (model X.prog X.w) X.A (f v u) (EP X pins σ Q) X.xe s
def dOp (g : G2) (fa fb : DE) : DE := fun ρ P => fa ρ fun x => fb ρ fun y => g x y P
def CallD (X : Cx) (f : Value) (g : GL) : Prop :=
  ∀ (pins : List (Addr × Obj)) (s : Shared) (σ : L2.St) (H : Hp) (xs : List V) (us : List Value) (w : Wd) (O : List Addr) (ds : List D) (P : D → Prop) (Q : VK), Inv X pins σ H s → Vals xs us → Wok w O H →
    Rps X.K (off (w.Z ++ O) H) xs ds → g ds P → (∀ d v H', P d → Stp w H H' → Rp X.K (off (w.Z ++ O) H') v d → Q v H') →
    wpAny (model X.prog X.w) X.A (call f us) (EP X pins σ Q) X.xe s
def dCB (g : GL) (fa : DA) : DE := fun ρ P => fa ρ fun ds => g ds P

section
variable {X : Cx} {a b c e : Expr} {es : List Expr} {fa fb fc : DE} {ta tb tc : DT} {fas : DA} {pos : Pos}
/-- two expressions in a row -/
theorem bin2 (ha : QE X a fa) (hb : QE X b fb) {pins : List (Addr × Obj)} {s : Shared} {σ : L2.St} {H : Hp} {w : Wd} {H0 : Hp} {kp : List (V × D)} {O : List Addr} {ρ : Env} {R : D → D → Prop}
    (I : Inv X pins σ H s) (rep : Rep X.K w H0 kp O H σ ρ) (h : fa ρ fun x => fb ρ fun y => R x y) {C : Value → Value → Shared → Prop}
    (hf : ∀ v u s2 x y H2 dx dy, Inv X pins σ H2 s2 → RelV x v → RelV y u → Stp w H H2 → Rep X.K w H0 kp O H2 σ ρ → Rp X.K (off (w.Z ++ O) H2) x dx → Rp X.K (off (w.Z ++ O) H2) y dy → R dx dy → C v u s2) :
    wpAny (model X.prog X.w) X.A (eval a X.env) (fun v s₁ => wpAny (model X.prog X.w) X.A (eval b X.env) (fun u s₂ => C v u s₂) X.xe s₁) X.xe s := by
  refine thn (ha.pe.run pins s σ H (fun x H1 => ∃ dx, Stp w H H1 ∧ Rp X.K (off (w.Z ++ O) H1) x dx ∧ fb ρ fun y => R dx y) I (rep.go h fun d v H' p s1 _ r => ⟨d, s1, r, p⟩)) fun v s1 ⟨x, H1, I1, r1, dx, st1, rp1, q1⟩ => ?_
  have rep1 := rep.stp st1
  refine thn (hb.pe.run pins s1 σ H1 (fun y H2 => ∃ dy, Stp w H1 H2 ∧ Rp X.K (off (w.Z ++ O) H2) y dy ∧ R dx dy) I1 (rep1.go q1 fun d v H' p s2 _ r => ⟨d, s2, r, p⟩)) fun u s2 ⟨y, H2, I2, r2, dy, st2, rp2, q2⟩ => ?_
  exact hf v u s2 x y H2 dx dy I2 r1 r2 (st1.trans st2) (rep1.stp st2) (rp1.mono (rep1.off st2)) rp2 q2
theorem one1 (ha : QE X a fa) {pins : List (Addr × Obj)} {s : Shared} {σ : L2.St} {H : Hp} {w : Wd} {H0 : Hp} {kp : List (V × D)} {O : List Addr} {ρ : Env} {R : D → Prop}
    (I : Inv X pins σ H s) (rep : Rep X.K w H0 kp O H σ ρ) (h : fa ρ R) {C : Value → Shared → Prop}
    (hf : ∀ v s2 x H2 dx, Inv X pins σ H2 s2 → RelV x v → Stp w H H2 → Rep X.K w H0 kp O H2 σ ρ → Rp X.K (off (w.Z ++ O) H2) x dx → R dx → C v s2) :
    wpAny (model X.prog X.w) X.A (eval a X.env) C X.xe s := by
  refine thn (ha.pe.run pins s σ H (fun x H1 => ∃ dx, Stp w H H1 ∧ Rp X.K (off (w.Z ++ O) H1) x dx ∧ R dx) I (rep.go h fun d v H' p s1 _ r => ⟨d, s1, r, p⟩)) fun v s1 ⟨x, H1, I1, r1, dx, st1, rp1, q1⟩ => ?_
  exact hf v s1 x H1 dx I1 r1 st1 (rep.stp st1) rp1 q1
theorem argsR (ha : QA X es fas) {pos : Pos} {pins : List (Addr × Obj)} {s : Shared} {σ : L2.St} {H : Hp} {w : Wd} {H0 : Hp} {kp : List (V × D)} {O : List Addr} {ρ : Env} {R : List D → Prop}
    (I : Inv X pins σ H s) (rep : Rep X.K w H0 kp O H σ ρ) (h : fas ρ R) {C : List Value → Shared → Prop}
    (hf : ∀ vs s2 xs H2 ds, Inv X pins σ H2 s2 → Vals xs vs → Stp w H H2 → Rep X.K w H0 kp O H2 σ ρ → Rps X.K (off (w.Z ++ O) H2) xs ds → R ds → C vs s2) :
    wpAny (model X.prog X.w) X.A (spliced (backTo pos (starEach es X.env))) C X.xe s := by
  refine thn (ha.pa.run pos pins s σ H (fun xs H1 => ∃ ds, Stp w H H1 ∧ Rps X.K (off (w.Z ++ O) H1) xs ds ∧ R ds) I (rep.goA h fun d v H' p s1 _ r => ⟨d, s1, r, p⟩)) fun v s1 ⟨x, H1, I1, r1, dx, st1, rp1, q1⟩ => ?_
  exact hf v s1 x H1 dx I1 r1 st1 (rep.stp st1) rp1 q1
theorem qe_op {op : Operator} {g : G2} (ho : OpD X (binaryOp op) g) (ha : QE X a fa) (hb : QE X b fb) : QE X (.BinOp a op b pos) (dOp g fa fb) := by
  refine ⟨⟨fun pins s σ H Q I h => ?_⟩⟩
  obtain ⟨w, H0, kp, O, ρ, P, rep, h, q⟩ := h
  refine wpAny_BinOp (bin2 ha hb I rep h fun v u s2 x y H2 dx dy I2 rx ry st rep2 px py r => ?_)
  exact ho pins s2 σ H2 x y v u w O dx dy P Q I2 rx ry rep2.wok px py r fun d v H' p s r => q d v H' p (st.trans s) r
theorem qe_cmp {op : CmpOp} {g : G2} (ho : OpD X (compareOp op) g) (ha : QE X a fa) (hb : QE X b fb) (hm : behindInMarks op b = false) : QE X (.Compare a [op] [b] pos) (dOp g fa fb) := by
  refine ⟨⟨fun pins s σ H Q I h => ?_⟩⟩
  obtain ⟨w, H0, kp, O, ρ, P, rep, h, q⟩ := h
  refine wpAny_Compare1 (bin2 ha hb I rep h fun v u s2 x y H2 dx dy I2 rx ry st rep2 px py r => ?_) hm
  exact ho pins s2 σ H2 x y v u w O dx dy P Q I2 rx ry rep2.wok px py r fun d v H' p s r => q d v H' p (st.trans s) r
def dTest (f : DE) : DT := fun ρ P => f ρ fun x => ∃ k, x = .bool k ∧ P k
theorem qt_cmp {op : CmpOp} {g : G2} (ho : OpD X (compareOp op) g) (ha : QE X a fa) (hb : QE X b fb) (hm : behindInMarks op b = false) : QT X (.Compare a [op] [b] pos) (dTest (dOp g fa fb)) := by
  refine ⟨⟨fun pins s σ H Q I h => ?_⟩⟩
  obtain ⟨w, H0, kp, O, ρ, P, rep, h, q⟩ := h
  refine wpAny_isTrue_Compare1 (bin2 ha hb I rep h fun v u s2 x y H2 dx dy I2 rx ry st rep2 px py r => ?_) hm
  refine thn (ho pins s2 σ H2 x y v u w O dx dy _ (fun v' H' => ∃ k, v' = .bl k ∧ Stp w H2 H' ∧ P k) I2 rx ry rep2.wok px py r fun d v' H' p s r => ?_) fun c s3 ⟨z, H3, I3, r3, k, e, st3, p3⟩ => ?_
  · obtain ⟨k, rfl, p⟩ := p
    exact ⟨k, r.bool_inv, s, p⟩
  · subst e
    cases r3
    exact wpAny_truthy_bool ⟨H3, I3, q k H3 p3 (st.trans st3)⟩
/-- an expression whose value is a bool, as a test -/
theorem qt_val (h : QE X e fa) (he : ∀ whole, isTrue e X.env whole = (do let v ← whole; standAt e.pos; holding [v] (truthy v)) := by intro _; rfl) : QT X e (dTest fa) :=
  ⟨pt_imp (pt_val h.pe he) fun σ H Q ⟨w, H0, kp, O, ρ, P, rep, h, q⟩ => rep.go h fun d v H' ⟨k, ek, p⟩ st rep' r => by
    subst ek; exact ⟨k, r.bool_inv, q k H' p st⟩⟩
/-! ### names, constants -/
def dVar (i : Nat) : DE := fun ρ P => ∃ x, ρ[i]? = some (some (.d x)) ∧ P x
def dC (x : D) : DE := fun _ P => P x
theorem qv (i : Nat) {x : Str} {pos : Pos} (hN : X.N[i]? = some x := by rfl) (hv : Vis X.env.scope x := by first | exact Or.inl rfl | exact Or.inr (Or.inl rfl) | exact Or.inr (Or.inr rfl)) (hd : (x == ("__debug__" : Str)) = false := by decide)
    (hcd : (x == ("__classdict__" : Str)) = false := by decide) : QE X (.Name x pos) (dVar i) :=
  ⟨pe_imp (pe_var hN hv hd hcd) fun σ H Q ⟨w, H0, kp, O, ρ, P, rep, ⟨x, h1, h2⟩, q⟩ => by
    obtain ⟨v, e, r⟩ := rep.var i _ h1
    exact ⟨v, e, q x v H h2 (Stp.refl rep.r) r⟩⟩
theorem qe_int {i j pos} : QE X (.Constant (.int i) j pos) (dC (.int i)) := ⟨pe_imp pe_int fun σ H Q ⟨w, H0, kp, O, ρ, P, rep, h, q⟩ => q _ _ _ h (Stp.refl rep.r) (.int i)⟩
theorem qe_bl {i j pos} : QE X (.Constant (.bool i) j pos) (dC (.bool i)) := ⟨pe_imp pe_bl fun σ H Q ⟨w, H0, kp, O, ρ, P, rep, h, q⟩ => q _ _ _ h (Stp.refl rep.r) (.bl i)⟩
theorem qe_str {i j pos} : QE X (.Constant (.str i) j pos) (dC (.str i)) := ⟨pe_imp pe_str fun σ H Q ⟨w, H0, kp, O, ρ, P, rep, h, q⟩ => q _ _ _ h (Stp.refl rep.r) (.str i)⟩
theorem qe_non {j pos} : QE X (.Constant .none j pos) (dC .none) := ⟨pe_imp pe_non fun σ H Q ⟨w, H0, kp, O, ρ, P, rep, h, q⟩ => q _ _ _ h (Stp.refl rep.r) .non⟩
/-- a module's constant -/
theorem qe_glob {x : Str} {v : V} {u : Value} {d : D} {pos : Pos} (hg : Gl X x) (hm : X.mg x = some u) (r : RelV v u) (rd : ∀ H, Rp X.K H v d) (hd : (x == ("__debug__" : Str)) = false := by decide) : QE X (.Name x pos) (dC d) :=
  ⟨pe_imp (pe_glob hg hm r hd) fun σ H Q ⟨w, H0, kp, O, ρ, P, rep, h, q⟩ => q _ _ _ h (Stp.refl rep.r) (rd _)⟩

/-! ### arguments, displays, calls of built-ins -/
def dNil : DA := fun _ P => P []
def dCons (f : DE) (g : DA) : DA := fun ρ P => f ρ fun x => g ρ fun xs => P (x :: xs)
theorem qa_nil : QA X [] dNil := ⟨pa_imp pa_nil fun σ H Q ⟨w, H0, kp, O, ρ, P, rep, h, q⟩ => q _ _ _ h (Stp.refl rep.r) .nil⟩
theorem qa_cons (ha : QE X e fa) (hr : QA X es fas) (hs : starEach (e :: es) X.env = (false, eval e X.env) :: starEach es X.env := by rfl) : QA X (e :: es) (dCons fa fas) :=
  ⟨pa_imp (pa_cons ha.pe hr.pa hs) fun σ H Q ⟨w, H0, kp, O, ρ, P, rep, h, q⟩ => rep.go h fun d v H1 h1 s1 rep1 r1 => rep1.goA h1 fun ds vs H2 h2 s2 rep2 r2 =>
    q _ _ _ h2 (s1.trans s2) (.cons (r1.mono (rep1.off s2)) r2)⟩
def dTup (fa : DA) : DE := fun ρ P => fa ρ fun ds => ds.length ≤ sizeLine ∧ P (.tuple ds)
def dLst (fa : DA) : DE := fun ρ P => fa ρ fun ds => ds.length ≤ sizeLine ∧ P (.list ds)
theorem qe_tup {x1} (h : QA X es fas) : QE X (.Tuple es x1 pos) (dTup fas) :=
  ⟨pe_imp (pe_tup h.pa) fun σ H Q ⟨w, H0, kp, O, ρ, P, rep, h, q⟩ => rep.goA h fun ds vs H1 h1 s1 rep1 r1 =>
    ⟨by rw [r1.length]; exact h1.1, fun p hp => q _ _ _ h1.2 (s1.trans (Stp.laid rep1.r hp)) (rep1.wok.tup hp r1)⟩⟩
theorem qe_lst (h : QA X es fas) : QE X (.List es pos) (dLst fas) :=
  ⟨pe_imp (pe_lst h.pa) fun σ H Q ⟨w, H0, kp, O, ρ, P, rep, h, q⟩ => rep.goA h fun ds vs H1 h1 s1 rep1 r1 =>
    ⟨by rw [r1.length]; exact h1.1, fun p hp => q _ _ _ h1.2 (s1.trans (Stp.laid rep1.r hp)) (rep1.wok.lst hp r1)⟩⟩
theorem qe_callB {id : String} {g : GL} {x : Str} {p : Pos} (hc : CallD X (.builtin id) g) (hg : Gl X x) (hm : X.mg x = none) (hv : bootBuiltins x = some (.builtin id)) (ha : QA X (e :: es) fas) (hn : x ≠ "__name__" := by decide) (hdb : (x == ("__debug__" : Str)) = false := by decide)
    (he : starEach (e :: es) X.env = (false, eval e X.env) :: starEach es X.env := by rfl) (hpl : (backTo pos (starEach es X.env)).any (·.1) = false := by rfl) : QE X (.Call (.Name x p) (e :: es) [] pos) (dCB g fas) := by
  refine ⟨⟨fun pins s σ H Q I h => ?_⟩⟩
  obtain ⟨w, H0, kp, O, ρ, P, rep, h, q⟩ := h
  refine wpAny_Call_Name_kw (ld_blt I hg hm hv ?_ hn hdb)
  exact PyProof.Rows.callWith_builtin1 (argsR ha I rep h fun us s1 vs H1 ds I1 r1 st rep1 rp1 q1 => hc pins s1 σ H1 vs us w O ds P Q I1 r1 rep1.wok rp1 q1 fun d v H' p s r => q d v H' p (st.trans s) r) he hpl
theorem qe_callTy {T : String} {g : GL} {x : Str} {p : Pos} (hc : CallD X (.type T) g) (hg : Gl X x) (hm : X.mg x = none) (hv : bootBuiltins x = some (.type T)) (ha : QA X (e :: es) fas) (hn : x ≠ "__name__" := by decide) (hdb : (x == ("__debug__" : Str)) = false := by decide)
    (he : starEach (e :: es) X.env = (false, eval e X.env) :: starEach es X.env := by rfl) (hpl : (backTo pos (starEach es X.env)).any (·.1) = false := by rfl) : QE X (.Call (.Name x p) (e :: es) [] pos) (dCB g fas) := by
  refine ⟨⟨fun pins s σ H Q I h => ?_⟩⟩
  obtain ⟨w, H0, kp, O, ρ, P, rep, h, q⟩ := h
  refine wpAny_Call_Name_kw (ld_blt I hg hm hv ?_ hn hdb)
  exact PyProof.Rows.callWith_type1 (argsR ha I rep h fun us s1 vs H1 ds I1 r1 st rep1 rp1 q1 => hc pins s1 σ H1 vs us w O ds P Q I1 r1 rep1.wok rp1 q1 fun d v H' p s r => q d v H' p (st.trans s) r) he hpl

/-! ### tests -/
def dAnd (f g : DT) : DT := fun ρ P => f ρ fun c => if c = true then g ρ P else P false
def dOr (f g : DT) : DT := fun ρ P => f ρ fun c => if c = true then P true else g ρ P
def dNot (f : DT) : DT := fun ρ P => f ρ fun c => P (!c)
theorem qw_and1 (ha : QT X a ta) : QW X (.BoolOp .And [a] pos) ta := ⟨pw_and1 ha.pt⟩
theorem qw_or1 (ha : QT X a ta) : QW X (.BoolOp .Or [a] pos) ta := ⟨pw_or1 ha.pt⟩
theorem qw_and {rest : List Expr} (ha : QT X a ta) (hb : QW X (.BoolOp .And (b :: rest) pos) tb) : QW X (.BoolOp .And (a :: b :: rest) pos) (dAnd ta tb) :=
  ⟨pw_imp (pw_and ha.pt hb.pw) fun σ H Q ⟨w, H0, kp, O, ρ, P, rep, h, q⟩ => rep.goT h fun c H1 h1 s1 rep1 => by
    cases c with
    | true => simp only [if_true] at h1 ⊢; exact rep1.goT h1 fun c2 H2 h2 s2 _ => q _ _ h2 (s1.trans s2)
    | false => simp only [Bool.false_eq_true, if_false] at h1 ⊢; exact q _ _ h1 s1⟩
theorem qw_or {rest : List Expr} (ha : QT X a ta) (hb : QW X (.BoolOp .Or (b :: rest) pos) tb) : QW X (.BoolOp .Or (a :: b :: rest) pos) (dOr ta tb) :=
  ⟨pw_imp (pw_or ha.pt hb.pw) fun σ H Q ⟨w, H0, kp, O, ρ, P, rep, h, q⟩ => rep.goT h fun c H1 h1 s1 rep1 => by
    cases c with
    | false => simp only [Bool.false_eq_true, if_false] at h1 ⊢; exact rep1.goT h1 fun c2 H2 h2 s2 _ => q _ _ h2 (s1.trans s2)
    | true => simp only [if_true] at h1 ⊢; exact q _ _ h1 s1⟩
theorem qt_not (ha : QT X a ta) : QT X (.UnaryOp .Not a pos) (dNot ta) :=
  ⟨pt_imp (pt_not ha.pt) fun σ H Q ⟨w, H0, kp, O, ρ, P, rep, h, q⟩ => rep.goT h fun c H1 h1 s1 rep1 => q _ _ h1 s1⟩
/-- .. as values -/
def dAndV (f g : DE) : DE := fun ρ P => f ρ fun x => ∃ c, x = .bool c ∧ if c = true then g ρ P else P (.bool false)
def dOrV (f g : DE) : DE := fun ρ P => f ρ fun x => ∃ c, x = .bool c ∧ if c = true then P (.bool true) else g ρ P
def dNotV (f : DE) : DE := fun ρ P => f ρ fun x => ∃ c, x = .bool c ∧ P (.bool (!c))
theorem qe_one {op} (h : QE X a fa) : QE X (.BoolOp op [a] pos) fa := ⟨pe_one h.pe⟩
theorem qe_and {rest : List Expr} (ha : QE X a fa) (hb : QE X (.BoolOp .And (b :: rest) pos) fb) : QE X (.BoolOp .And (a :: b :: rest) pos) (dAndV fa fb) :=
  ⟨pe_imp (pe_and ha.pe hb.pe) fun σ H Q ⟨w, H0, kp, O, ρ, P, rep, h, q⟩ => rep.go h fun d v H1 ⟨c, ec, h1⟩ s1 rep1 r1 => by
    subst ec
    refine ⟨c, r1.bool_inv, ?_⟩
    cases c with
    | true => simp only [if_true] at h1 ⊢; exact rep1.go h1 fun d2 v2 H2 h2 s2 _ r2 => q _ _ _ h2 (s1.trans s2) r2
    | false => simp only [Bool.false_eq_true, if_false] at h1 ⊢; exact q _ _ _ h1 s1 (.bl false)⟩
theorem qe_or {rest : List Expr} (ha : QE X a fa) (hb : QE X (.BoolOp .Or (b :: rest) pos) fb) : QE X (.BoolOp .Or (a :: b :: rest) pos) (dOrV fa fb) :=
  ⟨pe_imp (pe_or ha.pe hb.pe) fun σ H Q ⟨w, H0, kp, O, ρ, P, rep, h, q⟩ => rep.go h fun d v H1 ⟨c, ec, h1⟩ s1 rep1 r1 => by
    subst ec
    refine ⟨c, r1.bool_inv, ?_⟩
    cases c with
    | false => simp only [Bool.false_eq_true, if_false] at h1 ⊢; exact rep1.go h1 fun d2 v2 H2 h2 s2 _ r2 => q _ _ _ h2 (s1.trans s2) r2
    | true => simp only [if_true] at h1 ⊢; exact q _ _ _ h1 s1 (.bl true)⟩
theorem qe_not (ha : QE X a fa) : QE X (.UnaryOp .Not a pos) (dNotV fa) :=
  ⟨pe_imp (pe_not ha.pe) fun σ H Q ⟨w, H0, kp, O, ρ, P, rep, h, q⟩ => rep.go h fun d v H1 ⟨c, ec, h1⟩ s1 rep1 r1 => by
    subst ec; exact ⟨c, r1.bool_inv, q _ _ _ h1 s1 (.bl _)⟩⟩
def dIf (t : DT) (f g : DE) : DE := fun ρ P => t ρ fun c => if c = true then f ρ P else g ρ P
theorem qe_ifExp (hc : QT X c tc) (ha : QE X a fa) (hb : QE X b fb) : QE X (.IfExp c a b pos) (dIf tc fa fb) :=
  ⟨pe_imp (pe_ifExp hc.pt ha.pe hb.pe) fun σ H Q ⟨w, H0, kp, O, ρ, P, rep, h, q⟩ => rep.goT h fun c H1 h1 s1 rep1 => by
    cases c with
    | true => simp only [if_true] at h1 ⊢; exact rep1.go h1 fun d2 v2 H2 h2 s2 _ r2 => q _ _ _ h2 (s1.trans s2) r2
    | false => simp only [Bool.false_eq_true, if_false] at h1 ⊢; exact rep1.go h1 fun d2 v2 H2 h2 s2 _ r2 => q _ _ _ h2 (s1.trans s2) r2⟩
end
end Dw

set_option maxHeartbeats 1000000
namespace Dw
open PySem PySem.Spec PyProof.Rows L2 PySem.MeetsSeq
open AutoSeq1 (wpAny_loadPart')
open PySem.MeetsSeq PySem.MeetsSeq2 PySem.MeetsSeq3 PySem.SeqRoads2
theorem tuple_mul_same (l : Addr) (items : Array Value) (n : Nat) (sl : Array (Option Value)) (dd : Option Addr) (x : Int) (u : Tok) (c0 : (decide (x < -(2 ^ 63)) || decide (x ≥ 2 ^ 63)) = false) (c1 : (items.isEmpty || x == 1) = true) :
    Meets (Builtin.«tuple.__mul__» ⟨[.ref l, .int x u], []⟩) (fun _ R s => s.heap.get? l = some { cls := .type "tuple", dict := dd, data := .seq items n, slots := sl } ∧
      R (.ok (.ret (Value.ref l))) s) :=
  .of_wp fun prog w A R s h => by
    obtain ⟨hp, g, d, tk, os⟩ := s
    obtain ⟨hl, h⟩ := h
    have f1 := AutoSeq1.idx_int
    wp_walk using wpAny_loadPart' hl
    repeat (first
      | (refine wpAny_ite_false (decide_eq_false (by rw [c0]; exact Bool.false_ne_true)) ?_; wp_walk using wpAny_loadPart' hl)
      | (refine wpAny_ite_true (decide_eq_true (by rw [c1])) ?_; wp_walk using wpAny_loadPart' hl))
    exact ⟨_, rfl, h⟩
theorem tuple_mul_none (l : Addr) (items : Array Value) (n : Nat) (dd : Option Addr) (sl : Array (Option Value)) (x : Int) (u : Tok) (c0 : (decide (x < -(2 ^ 63)) || decide (x ≥ 2 ^ 63)) = false) (c1 : (items.isEmpty || x == 1) = false) (c2 : (decide (x ≤ 0) || items.isEmpty) = true) :
    Meets (Builtin.«tuple.__mul__» ⟨[.ref l, .int x u], []⟩) (fun _ R s => s.heap.get? l = some { cls := .type "tuple", dict := dd, data := .seq items n, slots := sl } ∧
      R (.ok (.ret (Value.ref s.heap.objs.size))) { s with heap := s.heap.push { cls := Value.type "tuple", data := Data.seq #[] }, toks := s.toks }) :=
  .of_wp fun prog w A R s h => by
    obtain ⟨hp, g, d, tk, os⟩ := s
    obtain ⟨hl, h⟩ := h
    have f1 := AutoSeq1.idx_int
    wp_walk using wpAny_loadPart' hl
    repeat (first
      | (refine wpAny_ite_false (decide_eq_false (by rw [c0]; exact Bool.false_ne_true)) ?_; wp_walk using wpAny_loadPart' hl)
      | (refine wpAny_ite_false (decide_eq_false (by rw [c1]; exact Bool.false_ne_true)) ?_; wp_walk using wpAny_loadPart' hl)
      | (refine wpAny_ite_true (decide_eq_true (by rw [c2])) ?_; wp_walk using wpAny_loadPart' hl))
    exact ⟨_, rfl, h⟩

def rRepA (K : PySem.W.Frag) : R2 := fun x y H Q => ∃ l k xs, x = .ref l ∧ y = .int k ∧ SqT K H l xs ∧ -(2 ^ 62) ≤ k ∧ k ≤ 1000 ∧ xs.length ≤ 1000 ∧
  ((xs = [] ∨ k = 1) → Q (.ref l) H) ∧ (¬ (xs = [] ∨ k = 1) → ∀ p, H p = none → Q (.ref p) (upd H p (.tup (List.replicate k.toNat xs).flatten)))
theorem op_repA {X : Cx} : OpR X (binaryOp .Mult) (rRepA X.K) := by
  intro pins s σ H x y v u Q I rx ry h
  obtain ⟨l, k, xs, rfl, rfl, hT, h1, h2, hz, q1, q2⟩ := h
  by_cases hb : xs ≠ [] ∧ 2 ≤ k
  · exact op_repT pins s σ H _ _ v u Q I rx ry ⟨l, k, xs, rfl, rfl, hT, hb.1, hb.2, h2, hz, q2 (by rintro (e | e); exact hb.1 e; omega)⟩
  cases rx
  obtain ⟨t, rfl⟩ := ry
  obtain ⟨its, r, ⟨⟨cls, dd, data, sl⟩, ho, hc, n, hd⟩, hs⟩ := I.tuple hT
  simp only at hc hd
  subst hc hd
  have hle : its.length = xs.length := r.length.symm
  have c0 : (decide (k < -(2 ^ 63)) || decide (k ≥ 2 ^ 63)) = false := by
    rw [decide_eq_false (by omega), decide_eq_false (by omega)] <;> rfl
  by_cases hs1 : xs = [] ∨ k = 1
  · have c1 : (its.toArray.isEmpty || k == 1) = true := by
      rcases hs1 with e | e
      · subst e
        have : its = [] := List.eq_nil_of_length_eq_zero (by rw [hle]; rfl)
        subst this; rfl
      · subst e; simp
    exact wpAny_binaryOp_repeat_ref (T := "tuple") (U := "int") (by decide) ⟨_, ho, rfl⟩ (fun s' => typeIs_int s' k t) noFill_tuple_mul F.fills_int_mul F.slot_int_rmul repeat_tuple F.slot_int_index.lookup
      (call_meets F.slot_int_rmul (typeIs_int s k t) F.entry_int_rmul (F.args_int_rmul_2 _ _) (int_rmul_tuple k t l its.toArray n dd sl)
        ⟨ho, rfl, ⟨_, ho, rfl⟩, call_meets F.slot_tuple_mul ⟨_, ho, rfl⟩ F.entry_tuple_mul (F.args_tuple_mul_2 _ _) (tuple_mul_same l its.toArray n sl dd k t c0 c1) ⟨ho, ⟨.ref l, H, I, rfl, q1 hs1⟩⟩⟩)
  · have hne : xs ≠ [] := fun e => hs1 (.inl e)
    have hk0 : k ≤ 0 := by
      have a1 : k ≠ 1 := fun e => hs1 (.inr e)
      have a2 : ¬ 2 ≤ k := fun e => hb ⟨hne, e⟩
      omega
    have hi : its.toArray.isEmpty = false := by
      cases its with
      | nil => exact absurd (List.eq_nil_of_length_eq_zero hle.symm) hne
      | cons a b => rfl
    have c1 : (its.toArray.isEmpty || k == 1) = false := by
      rw [hi, Bool.false_or]
      exact beq_eq_false_iff_ne.mpr (by omega)
    have c2 : (decide (k ≤ 0) || its.toArray.isEmpty) = true := by
      rw [decide_eq_true hk0]; rfl
    refine wpAny_binaryOp_repeat_ref (T := "tuple") (U := "int") (by decide) ⟨_, ho, rfl⟩ (fun s' => typeIs_int s' k t) noFill_tuple_mul F.fills_int_mul F.slot_int_rmul repeat_tuple F.slot_int_index.lookup
      (call_meets F.slot_int_rmul (typeIs_int s k t) F.entry_int_rmul (F.args_int_rmul_2 _ _) (int_rmul_tuple k t l its.toArray n dd sl)
        ⟨ho, rfl, ⟨_, ho, rfl⟩, call_meets F.slot_tuple_mul ⟨_, ho, rfl⟩ F.entry_tuple_mul (F.args_tuple_mul_2 _ _) (tuple_mul_none l its.toArray n dd sl k t c0 c1 c2) ⟨ho, ?_⟩⟩)
    have e0 : (List.replicate k.toNat xs).flatten = [] := by rw [show k.toNat = 0 by omega]; rfl
    refine ⟨.ref s.heap.objs.size, _, I.laid (t' := s.toks) (o := .tup (List.replicate k.toNat xs).flatten) (fun b ob q => Heap.get?_push_of_some _ q) (Nat.le_refl _) ?_, rfl, q2 hs1 _ (I.hok.fresh (Nat.le_refl _))⟩
    rw [e0]
    exact ⟨Nat.zero_le _, [], .nil, IsTup.new _ _⟩
end Dw

namespace Dw
open PySem PySem.Spec PyProof.Rows L2

/-! ### operators on data -/
def addD : G2 := fun x y P => match x, y with
  | .int i, .int j => P (.int (i + j))
  | .list a, .list b => a.length + b.length ≤ sizeLine ∧ P (.list (a ++ b))
  | .tuple a, .tuple b => a.length + b.length ≤ sizeLine ∧ P (.tuple (a ++ b))
  | .str a, .str b => a.length + b.length ≤ sizeLine ∧ P (.str (a ++ b))
  | _, _ => False
def subD : G2 := fun x y P => match x, y with
  | .int i, .int j => P (.int (i - j))
  | _, _ => False
def MulOk (i j : Int) : Prop := CMul i j ∨ CMulW i j
def mulD : G2 := fun x y P => match x, y with
  | .int i, .int j => MulOk i j ∧ P (.int (i * j))
  | .list a, .int k => (-(2 ^ 63) ≤ k ∧ k < 2 ^ 63 ∧ a.length * k.toNat ≤ sizeLine) ∧ P (.list (List.replicate k.toNat a).flatten)
  | .tuple a, .int k => (-(2 ^ 62) ≤ k ∧ k ≤ 1000 ∧ a.length ≤ 1000) ∧ P (.tuple (List.replicate k.toNat a).flatten)
  | _, _ => False
def fdivD : G2 := fun x y P => match x, y with
  | .int i, .int j => (0 < j ∧ j.natAbs.log2 < 9000) ∧ P (.int (i / j))
  | _, _ => False
def modD : G2 := fun x y P => match x, y with
  | .int i, .int j => 0 < j ∧ P (.int (i % j))
  | _, _ => False
def powD : G2 := fun x y P => match x, y with
  | .int i, .int j => CPow i j ∧ P (.int (i ^ j.toNat))
  | _, _ => False
section
variable {X : Cx}
theorem Rps.rep {K : PySem.W.Frag} {H : Hp} {xs : List V} {ds : List D} (h : Rps K H xs ds) : ∀ n : Nat, Rps K H (List.replicate n xs).flatten (List.replicate n ds).flatten
  | 0 => .nil
  | n + 1 => by
    rw [List.replicate_succ, List.replicate_succ, List.flatten_cons, List.flatten_cons]
    exact h.append (Rps.rep h n)
theorem od_add : OpD X (binaryOp .Add) addD := by
  intro pins s σ H x y v u w O dx dy P Q I rx ry k px py h q
  unfold addD at h
  split at h
  · cases px; cases py
    exact op_add pins s σ H _ _ v u Q I rx ry ⟨_, _, rfl, rfl, q _ _ _ h (Stp.refl k.r) (.int _)⟩
  · obtain ⟨l, xs, rfl, e1, r1⟩ := px.list_inv
    obtain ⟨l2, ys, rfl, e2, r2⟩ := py.list_inv
    refine op_cat pins s σ H _ _ v u Q I rx ry ⟨_, _, xs, ys, rfl, rfl, (off_some.mp e1).2, (off_some.mp e2).2, by rw [r1.length, r2.length]; exact h.1, fun p hp => ?_⟩
    exact q _ _ _ h.2 (Stp.laid k.r hp) (k.lst hp (r1.append r2))
  · obtain ⟨l, xs, rfl, e1, r1⟩ := px.tup_inv
    obtain ⟨l2, ys, rfl, e2, r2⟩ := py.tup_inv
    refine op_catA pins s σ H _ _ v u Q I rx ry ⟨_, _, xs, ys, rfl, rfl, sqT_off e1, sqT_off e2, by rw [r1.length, r2.length]; exact h.1, fun e => ?_, fun _ e => ?_, fun _ _ p hp => ?_⟩
    · subst e; cases r1; exact q _ _ _ h.2 (Stp.refl k.r) py
    · subst e; cases r2; exact q _ _ _ (by simpa using h.2) (Stp.refl k.r) px
    · exact q _ _ _ h.2 (Stp.laid k.r hp) (k.tup hp (r1.append r2))
  · cases px; cases py
    exact op_add_str pins s σ H _ _ v u Q I rx ry ⟨_, _, rfl, rfl, h.1, q _ _ _ h.2 (Stp.refl k.r) (.str _)⟩
  · exact h.elim
theorem od_sub : OpD X (binaryOp .Sub) subD := by
  intro pins s σ H x y v u w O dx dy P Q I rx ry k px py h q
  unfold subD at h
  split at h
  · cases px; cases py
    exact op_sub pins s σ H _ _ v u Q I rx ry ⟨_, _, rfl, rfl, q _ _ _ h (Stp.refl k.r) (.int _)⟩
  · exact h.elim
theorem od_mul : OpD X (binaryOp .Mult) mulD := by
  intro pins s σ H x y v u w O dx dy P Q I rx ry k px py h q
  unfold mulD at h
  split at h
  · cases px; cases py
    rcases h.1 with hm | hm
    · exact op_mul pins s σ H _ _ v u Q I rx ry ⟨_, _, rfl, rfl, hm, q _ _ _ h.2 (Stp.refl k.r) (.int _)⟩
    · exact op_mulW pins s σ H _ _ v u Q I rx ry ⟨_, _, rfl, rfl, hm, q _ _ _ h.2 (Stp.refl k.r) (.int _)⟩
  · obtain ⟨l, xs, rfl, e1, r1⟩ := px.list_inv
    cases py
    refine op_rep pins s σ H _ _ v u Q I rx ry ⟨_, _, xs, rfl, rfl, (off_some.mp e1).2, h.1.1, h.1.2.1, by rw [r1.length]; exact h.1.2.2, fun p hp => ?_⟩
    exact q _ _ _ h.2 (Stp.laid k.r hp) (k.lst hp (r1.rep _))
  · obtain ⟨l, xs, rfl, e1, r1⟩ := px.tup_inv
    cases py
    refine op_repA pins s σ H _ _ v u Q I rx ry ⟨_, _, xs, rfl, rfl, sqT_off e1, h.1.1, h.1.2.1, by rw [r1.length]; exact h.1.2.2, fun e => ?_, fun _ p hp => ?_⟩
    · refine q _ _ _ h.2 (Stp.refl k.r) ?_
      rcases e with e | e
      · subst e; cases r1
        simpa using px
      · subst e
        simpa using px
    · exact q _ _ _ h.2 (Stp.laid k.r hp) (k.tup hp (r1.rep _))
  · exact h.elim
theorem od_fdiv : OpD X (binaryOp .FloorDiv) fdivD := by
  intro pins s σ H x y v u w O dx dy P Q I rx ry k px py h q
  unfold fdivD at h
  split at h
  · cases px; cases py
    exact op_fdivW pins s σ H _ _ v u Q I rx ry ⟨_, _, rfl, rfl, h.1, q _ _ _ h.2 (Stp.refl k.r) (.int _)⟩
  · exact h.elim
theorem od_mod : OpD X (binaryOp .Mod) modD := by
  intro pins s σ H x y v u w O dx dy P Q I rx ry k px py h q
  unfold modD at h
  split at h
  · cases px; cases py
    exact op_mod pins s σ H _ _ v u Q I rx ry ⟨_, _, rfl, rfl, h.1, q _ _ _ h.2 (Stp.refl k.r) (.int _)⟩
  · exact h.elim
theorem od_pow : OpD X (binaryOp .Pow) powD := by
  intro pins s σ H x y v u w O dx dy P Q I rx ry k px py h q
  unfold powD at h
  split at h
  · cases px; cases py
    exact op_pow pins s σ H _ _ v u Q I rx ry ⟨_, _, rfl, rfl, h.1, q _ _ _ h.2 (Stp.refl k.r) (.int _)⟩
  · exact h.elim
def negD : G1 := fun x P => match x with
  | .int i => P (.int (-i))
  | _ => False
def dUn (g : G1) (fa : DE) : DE := fun ρ P => fa ρ fun x => g x P
theorem qe_neg {a : Expr} {fa : DE} {pos : Pos} (ha : QE X a fa) : QE X (.UnaryOp .USub a pos) (dUn negD fa) :=
  ⟨pe_imp (pe_un un_neg ha.pe) fun σ H Q ⟨w, H0, kp, O, ρ, P, rep, h, q⟩ => rep.go h fun d v H1 h1 s1 rep1 r1 => by
    unfold negD at h1
    split at h1
    · exact ⟨_, r1.int_inv, q _ _ _ h1 s1 (.int _)⟩
    · exact h1.elim⟩

/-! ### comparisons -/
def eqD : G2 := fun x y P => min x.depth y.depth ≤ 100 ∧ P (.bool (PyData.eqv x y))
def neD : G2 := fun x y P => min x.depth y.depth ≤ 100 ∧ P (.bool (!PyData.eqv x y))
def cmpOk (x y : D) : Prop := PySem.W.alike x y = true ∧ x ≠ .none ∧ min x.depth y.depth ≤ 100
def ltD : G2 := fun x y P => match x, y with
  | .int i, .int j => P (.bool (decide (i < j)))
  | x, y => cmpOk x y ∧ P (.bool (PySem.W.dataLt x y))
def gtD : G2 := fun x y P => match x, y with
  | .int i, .int j => P (.bool (decide (j < i)))
  | x, y => cmpOk x y ∧ P (.bool (PySem.W.dataLt y x))
def leD : G2 := fun x y P => match x, y with
  | .int i, .int j => P (.bool (decide (i ≤ j)))
  | x, y => cmpOk x y ∧ P (.bool (!PySem.W.dataLt y x))
def geD : G2 := fun x y P => match x, y with
  | .int i, .int j => P (.bool (decide (j ≤ i)))
  | x, y => cmpOk x y ∧ P (.bool (!PySem.W.dataLt x y))
def inD : G2 := fun x y P => match y with
  | .list ds => min (PyData.depthAll ds) x.depth ≤ 100 ∧ P (.bool (ds.any fun z => PyData.eqv z x))
  | .tuple ds => min (PyData.depthAll ds) x.depth ≤ 100 ∧ P (.bool (ds.any fun z => PyData.eqv z x))
  | _ => False
def ninD : G2 := fun x y P => match y with
  | .list ds => min (PyData.depthAll ds) x.depth ≤ 100 ∧ P (.bool (!ds.any fun z => PyData.eqv z x))
  | .tuple ds => min (PyData.depthAll ds) x.depth ≤ 100 ∧ P (.bool (!ds.any fun z => PyData.eqv z x))
  | _ => False
theorem od_eq (hu : X.A.units + 101 < cLine) : OpD X (compareOp .Eq) eqD := by
  intro pins s σ H x y v u w O dx dy P Q I rx ry k px py h q
  obtain ⟨as, r1⟩ := Inv.reads I rx px
  obtain ⟨bs, r2⟩ := Inv.reads I ry py
  have h1 := h.1
  exact SeqAt.eq_plain r1 r2 px.plain py.plain (by omega) ⟨.bl _, H, I, rfl, q _ _ _ h.2 (Stp.refl k.r) (.bl _)⟩
theorem od_ne (hu : X.A.units + 101 < cLine) : OpD X (compareOp .NotEq) neD := by
  intro pins s σ H x y v u w O dx dy P Q I rx ry k px py h q
  obtain ⟨as, r1⟩ := Inv.reads I rx px
  obtain ⟨bs, r2⟩ := Inv.reads I ry py
  have h1 := h.1
  exact SeqAt.ne_plain r1 r2 px.plain py.plain (by omega) ⟨.bl _, H, I, rfl, q _ _ _ h.2 (Stp.refl k.r) (.bl _)⟩
theorem od_lt (hu : X.A.units + 101 < cLine) : OpD X (compareOp .Lt) ltD := by
  intro pins s σ H x y v u w O dx dy P Q I rx ry k px py h q
  unfold ltD at h
  split at h
  · cases px; cases py
    exact op_lt pins s σ H _ _ v u Q I rx ry ⟨_, _, rfl, rfl, q _ _ _ h (Stp.refl k.r) (.bl _)⟩
  · obtain ⟨⟨ha, hn, hd⟩, h⟩ := h
    obtain ⟨as, r1⟩ := Inv.reads I rx px
    obtain ⟨bs, r2⟩ := Inv.reads I ry py
    exact PySem.W.lt_data r1 r2 ha hn (by omega) ⟨.bl _, H, I, rfl, q _ _ _ h (Stp.refl k.r) (.bl _)⟩
theorem od_gt (hu : X.A.units + 101 < cLine) : OpD X (compareOp .Gt) gtD := by
  intro pins s σ H x y v u w O dx dy P Q I rx ry k px py h q
  unfold gtD at h
  split at h
  · cases px; cases py
    exact op_gt pins s σ H _ _ v u Q I rx ry ⟨_, _, rfl, rfl, q _ _ _ h (Stp.refl k.r) (.bl _)⟩
  · obtain ⟨⟨ha, hn, hd⟩, h⟩ := h
    obtain ⟨as, r1⟩ := Inv.reads I rx px
    obtain ⟨bs, r2⟩ := Inv.reads I ry py
    exact PySem.W.gt_data r1 r2 ha hn (by omega) ⟨.bl _, H, I, rfl, q _ _ _ h (Stp.refl k.r) (.bl _)⟩
theorem od_le (hu : X.A.units + 101 < cLine) : OpD X (compareOp .LtE) leD := by
  intro pins s σ H x y v u w O dx dy P Q I rx ry k px py h q
  unfold leD at h
  split at h
  · cases px; cases py
    exact op_le pins s σ H _ _ v u Q I rx ry ⟨_, _, rfl, rfl, q _ _ _ h (Stp.refl k.r) (.bl _)⟩
  · obtain ⟨⟨ha, hn, hd⟩, h⟩ := h
    obtain ⟨as, r1⟩ := Inv.reads I rx px
    obtain ⟨bs, r2⟩ := Inv.reads I ry py
    exact PySem.W.le_data r1 r2 ha hn (by omega) ⟨.bl _, H, I, rfl, q _ _ _ h (Stp.refl k.r) (.bl _)⟩
theorem od_ge (hu : X.A.units + 101 < cLine) : OpD X (compareOp .GtE) geD := by
  intro pins s σ H x y v u w O dx dy P Q I rx ry k px py h q
  unfold geD at h
  split at h
  · cases px; cases py
    exact op_ge pins s σ H _ _ v u Q I rx ry ⟨_, _, rfl, rfl, q _ _ _ h (Stp.refl k.r) (.bl _)⟩
  · obtain ⟨⟨ha, hn, hd⟩, h⟩ := h
    obtain ⟨as, r1⟩ := Inv.reads I rx px
    obtain ⟨bs, r2⟩ := Inv.reads I ry py
    exact PySem.W.ge_data r1 r2 ha hn (by omega) ⟨.bl _, H, I, rfl, q _ _ _ h (Stp.refl k.r) (.bl _)⟩
theorem od_in (hu : X.A.units + 102 < cLine) : OpD X (compareOp .In) inD := by
  intro pins s σ H x y v u w O dx dy P Q I rx ry k px py h q
  obtain ⟨as, r1⟩ := Inv.reads I rx px
  obtain ⟨bs, r2⟩ := Inv.reads I ry py
  unfold inD at h
  split at h
  · have h1 := h.1
    exact SeqAt.in_list_data r2 r1 py.plain px.plain (by omega) ⟨.bl _, H, I, rfl, q _ _ _ h.2 (Stp.refl k.r) (.bl _)⟩
  · have h1 := h.1
    exact SeqAt.in_tuple_data r2 r1 py.plain px.plain (by omega) ⟨.bl _, H, I, rfl, q _ _ _ h.2 (Stp.refl k.r) (.bl _)⟩
  · exact h.elim
theorem od_nin (hu : X.A.units + 102 < cLine) : OpD X (compareOp .NotIn) ninD := by
  intro pins s σ H x y v u w O dx dy P Q I rx ry k px py h q
  obtain ⟨as, r1⟩ := Inv.reads I rx px
  obtain ⟨bs, r2⟩ := Inv.reads I ry py
  unfold ninD at h
  split at h
  · have h1 := h.1
    exact SeqAt.notIn_list_data r2 r1 py.plain px.plain (by omega) ⟨.bl _, H, I, rfl, q _ _ _ h.2 (Stp.refl k.r) (.bl _)⟩
  · have h1 := h.1
    exact SeqAt.notIn_tuple_data r2 r1 py.plain px.plain (by omega) ⟨.bl _, H, I, rfl, q _ _ _ h.2 (Stp.refl k.r) (.bl _)⟩
  · exact h.elim
def isNone : D → Bool
  | .none => true
  | _ => false
def isD : G2 := fun x y P => match y with
  | .none => P (.bool (isNone x))
  | .bool b => match x with
    | .bool a => P (.bool (decide (a = b)))
    | _ => False
  | _ => False
def isntD : G2 := fun x y P => match y with
  | .none => P (.bool (!isNone x))
  | .bool b => match x with
    | .bool a => P (.bool (!decide (a = b)))
    | _ => False
  | _ => False
theorem isNone_of {K : PySem.W.Frag} {H : Hp} {x : V} {d : D} (h : Rp K H x d) : decide (x = V.non) = isNone d := by
  cases h <;> simp [isNone]
theorem od_is : OpD X (compareOp .Is) isD := by
  intro pins s σ H x y v u w O dx dy P Q I rx ry k px py h q
  unfold isD at h
  split at h
  · cases py
    exact op_isN pins s σ H _ _ v u Q I rx ry ⟨rfl, by rw [isNone_of px]; exact q _ _ _ h (Stp.refl k.r) (.bl _)⟩
  · split at h
    · cases px; cases py
      exact op_is_bl pins s σ H _ _ v u Q I rx ry ⟨_, _, rfl, rfl, q _ _ _ h (Stp.refl k.r) (.bl _)⟩
    · exact h.elim
  · exact h.elim
theorem od_isnt : OpD X (compareOp .IsNot) isntD := by
  intro pins s σ H x y v u w O dx dy P Q I rx ry k px py h q
  unfold isntD at h
  split at h
  · cases py
    exact op_notN pins s σ H _ _ v u Q I rx ry ⟨rfl, by rw [isNone_of px]; exact q _ _ _ h (Stp.refl k.r) (.bl _)⟩
  · split at h
    · cases px; cases py
      exact op_isnot_bl pins s σ H _ _ v u Q I rx ry ⟨_, _, rfl, rfl, q _ _ _ h (Stp.refl k.r) (.bl _)⟩
    · exact h.elim
  · exact h.elim
end
end Dw

namespace Dw
open PySem PySem.Spec PyProof.Rows L2

/-! ### built-ins on data -/
def seqOf : D → Option (List D)
  | .list ds => some ds
  | .tuple ds => some ds
  | _ => none
def lenD : GL := fun ds P => match ds with
  | [.list a] => P (.int (a.length : Nat))
  | [.tuple a] => P (.int (a.length : Nat))
  | [.str x] => x.length ≤ sizeLine ∧ P (.int (x.length : Nat))
  | _ => False
def absD : GL := fun ds P => match ds with
  | [.int i] => P (.int (i.natAbs : Nat))
  | _ => False
def intD : GL := fun ds P => match ds with
  | [.int i] => P (.int i)
  | [.bool b] => P (.int (if b then 1 else 0))
  | _ => False
def max2D : GL := fun ds P => match ds with
  | [.int i, .int j] => P (.int (max i j))
  | _ => False
def min2D : GL := fun ds P => match ds with
  | [.int i, .int j] => P (.int (min i j))
  | _ => False
def maxL : GL := fun ds P => match ds with
  | [.list (d :: r)] => (PySem.W.AlikeAll (d :: r) ∧ PyData.depthAll (d :: r) ≤ 100) ∧ P (PySem.W.maxD d r)
  | [.tuple (d :: r)] => (PySem.W.AlikeAll (d :: r) ∧ PyData.depthAll (d :: r) ≤ 100) ∧ P (PySem.W.maxD d r)
  | _ => False
def minL : GL := fun ds P => match ds with
  | [.list (d :: r)] => (PySem.W.AlikeAll (d :: r) ∧ PyData.depthAll (d :: r) ≤ 100) ∧ P (PySem.W.minD d r)
  | [.tuple (d :: r)] => (PySem.W.AlikeAll (d :: r) ∧ PyData.depthAll (d :: r) ≤ 100) ∧ P (PySem.W.minD d r)
  | _ => False
def sumD : GL := fun ds P => ∃ (x : D) (ns : List Int), ds = [x] ∧ seqOf x = some (ns.map PyData.int) ∧ P (.int ns.sum)
def allD : GL := fun ds P => ∃ bs : List Bool, ds = [.list (bs.map PyData.bool)] ∧ P (.bool (bs.all id))
def anyD : GL := fun ds P => ∃ bs : List Bool, ds = [.list (bs.map PyData.bool)] ∧ P (.bool (bs.any id))
def tupleD : GL := fun ds P => match ds with
  | [.list a] => P (.tuple a)
  | [.tuple a] => P (.tuple a)
  | _ => False
def listD : GL := fun ds P => match ds with
  | [.list a] => P (.list a)
  | [.tuple a] => P (.list a)
  | _ => False
def sortedD : GL := fun ds P => match ds with
  | [.list a] => (PySem.W.AllAlike a ∧ PySem.W.Sortable a ∧ PyData.depthAll a ≤ 100) ∧ P (.list (a.mergeSort (PySem.W.dataLe false id)))
  | _ => False
section
variable {X : Cx}
theorem Rps.sq {K : PySem.W.Frag} {H : Hp} {Z : List Addr} {x : V} {d : D} {ds : List D} (h : Rp K (off Z H) x d) (e : seqOf d = some ds) : ∃ p xs, x = .ref p ∧ (SqL K H p xs ∨ SqT K H p xs) ∧ Rps K (off Z H) xs ds := by
  cases d <;> simp [seqOf] at e
  · subst e
    obtain ⟨a, xs, rfl, e1, r⟩ := h.list_inv
    exact ⟨a, xs, rfl, .inl (SqL.of (off_some.mp e1).2), r⟩
  · subst e
    obtain ⟨a, xs, rfl, e1, r⟩ := h.tup_inv
    exact ⟨a, xs, rfl, .inr (sqT_off e1), r⟩
theorem rps_one {K : PySem.W.Frag} {H : Hp} {xs : List V} {d : D} (h : Rps K H xs [d]) : ∃ x, xs = [x] ∧ Rp K H x d := by
  cases h with | cons a b => cases b; exact ⟨_, rfl, a⟩
theorem rps_two {K : PySem.W.Frag} {H : Hp} {xs : List V} {d e : D} (h : Rps K H xs [d, e]) : ∃ x y, xs = [x, y] ∧ Rp K H x d ∧ Rp K H y e := by
  cases h with | cons a b => cases b with | cons c d => cases d; exact ⟨_, _, rfl, a, c⟩
theorem cd_len : CallD X (.builtin "len") lenD := by
  intro pins s σ H xs us w O ds P Q I r k rp h q
  unfold lenD at h
  split at h
  · obtain ⟨x, rfl, px⟩ := rps_one rp
    obtain ⟨a, ys, rfl, e1, r1⟩ := px.list_inv
    exact call_len pins s σ H _ us Q I r ⟨_, _, rfl, .inl ⟨ys, SqL.of (off_some.mp e1).2, r1.length.symm⟩, q _ _ _ h (Stp.refl k.r) (.int _)⟩
  · obtain ⟨x, rfl, px⟩ := rps_one rp
    obtain ⟨a, ys, rfl, e1, r1⟩ := px.tup_inv
    exact call_len pins s σ H _ us Q I r ⟨_, _, rfl, .inr ⟨ys, sqT_off e1, r1.length.symm⟩, q _ _ _ h (Stp.refl k.r) (.int _)⟩
  · obtain ⟨x, rfl, px⟩ := rps_one rp
    cases px
    exact call_len pins s σ H _ us Q I r ⟨_, _, rfl, ⟨h.1, rfl⟩, q _ _ _ h.2 (Stp.refl k.r) (.int _)⟩
  · exact h.elim
theorem cd_abs : CallD X (.builtin "abs") absD := by
  intro pins s σ H xs us w O ds P Q I r k rp h q
  unfold absD at h
  split at h
  · obtain ⟨x, rfl, px⟩ := rps_one rp
    cases px
    rename_i i
    refine call_abs pins s σ H _ us Q I r ⟨i, rfl, ?_⟩
    have e : (if i < 0 then -i else i) = ((i.natAbs : Nat) : Int) := by split <;> omega
    rw [e]
    exact q _ _ _ h (Stp.refl k.r) (.int _)
  · exact h.elim
theorem cd_int : CallD X (.type "int") intD := by
  intro pins s σ H xs us w O ds P Q I r k rp h q
  unfold intD at h
  split at h
  · obtain ⟨x, rfl, px⟩ := rps_one rp
    cases px
    exact call_int1 pins s σ H _ us Q I r (.inl ⟨_, rfl, q _ _ _ h (Stp.refl k.r) (.int _)⟩)
  · obtain ⟨x, rfl, px⟩ := rps_one rp
    cases px
    exact call_int1 pins s σ H _ us Q I r (.inr ⟨_, rfl, q _ _ _ h (Stp.refl k.r) (.int _)⟩)
  · exact h.elim
theorem cd_max2 (hc : X.calm = true) : CallD X (.builtin "max") max2D := by
  intro pins s σ H xs us w O ds P Q I r k rp h q
  unfold max2D at h
  split at h
  · obtain ⟨x, y, rfl, px, py⟩ := rps_two rp
    cases px; cases py
    rename_i i j
    refine call_max2 hc pins s σ H _ us Q I r ⟨i, j, rfl, ?_⟩
    have e : (if j > i then j else i) = max i j := by split <;> omega
    rw [e]
    exact q _ _ _ h (Stp.refl k.r) (.int _)
  · exact h.elim
theorem cd_min2 (hc : X.calm = true) : CallD X (.builtin "min") min2D := by
  intro pins s σ H xs us w O ds P Q I r k rp h q
  unfold min2D at h
  split at h
  · obtain ⟨x, y, rfl, px, py⟩ := rps_two rp
    cases px; cases py
    rename_i i j
    refine call_min2 hc pins s σ H _ us Q I r ⟨i, j, rfl, ?_⟩
    have e : (if j < i then j else i) = min i j := by split <;> omega
    rw [e]
    exact q _ _ _ h (Stp.refl k.r) (.int _)
  · exact h.elim
theorem cd_all (hc : X.calm = true) : CallD X (.builtin "all") allD := by
  intro pins s σ H xs us w O ds P Q I r k rp h q
  obtain ⟨bs, rfl, h⟩ := h
  obtain ⟨x, rfl, px⟩ := rps_one rp
  obtain ⟨a, ys, rfl, e1, r1⟩ := px.list_inv
  have := r1.bools
  subst this
  exact cr_all hc pins s σ H _ us Q I r ⟨a, bs, rfl, SqL.of (off_some.mp e1).2, q _ _ _ h (Stp.refl k.r) (.bl _)⟩
theorem cd_any (hc : X.calm = true) : CallD X (.builtin "any") anyD := by
  intro pins s σ H xs us w O ds P Q I r k rp h q
  obtain ⟨bs, rfl, h⟩ := h
  obtain ⟨x, rfl, px⟩ := rps_one rp
  obtain ⟨a, ys, rfl, e1, r1⟩ := px.list_inv
  have := r1.bools
  subst this
  exact cr_any hc pins s σ H _ us Q I r ⟨a, bs, rfl, SqL.of (off_some.mp e1).2, q _ _ _ h (Stp.refl k.r) (.bl _)⟩
theorem cd_sum (hc : X.calm = true) : CallD X (.builtin "sum") sumD := by
  intro pins s σ H xs us w O ds P Q I r k rp h q
  obtain ⟨x, ns, rfl, e, h⟩ := h
  obtain ⟨x, rfl, px⟩ := rps_one rp
  obtain ⟨p, ys, rfl, hs, r1⟩ := Rps.sq px e
  have := r1.ints
  subst this
  rcases hs with hs | hs
  · exact cr_sum hc pins s σ H _ us Q I r ⟨p, ns, rfl, hs, q _ _ _ h (Stp.refl k.r) (.int _)⟩
  · obtain ⟨u, rfl, ru⟩ := vals1 r
    cases ru
    obtain ⟨its, rv, ht, hz⟩ := I.tuple hs
    have hi := rv.ints
    obtain ⟨xs, hx⟩ := hi.allInts.items
    have hn : numsOf its.toArray.toList = ns := by rw [show its.toArray.toList = its from rfl, hi.numsOf]
    have ht : s.heap.IsTuple p its.toArray := ht
    rw [hx] at ht hn
    rw [nums_intItems] at hn
    refine PySem.W.ktm_sumG (I.ok.hd hc) ht fun h' tk t' hk => ?_
    rw [preSum_eq, List.take_of_length_le (by simp), hn]
    exact ⟨.int ns.sum, H, I.kept hk, ⟨_, rfl⟩, q _ _ _ h (Stp.refl k.r) (.int _)⟩
theorem cd_tuple : CallD X (.type "tuple") tupleD := by
  intro pins s σ H xs us w O ds P Q I r k rp h q
  unfold tupleD at h
  split at h
  · obtain ⟨x, rfl, px⟩ := rps_one rp
    obtain ⟨a, ys, rfl, e1, r1⟩ := px.list_inv
    exact call_tuple_of pins s σ H _ us Q I r ⟨a, ys, rfl, .inl ⟨SqL.of (off_some.mp e1).2, fun l hl => q _ _ _ h (Stp.laid k.r hl) (k.tup hl r1)⟩⟩
  · obtain ⟨x, rfl, px⟩ := rps_one rp
    obtain ⟨a, ys, rfl, e1, r1⟩ := px.tup_inv
    exact call_tuple_of pins s σ H _ us Q I r ⟨a, ys, rfl, .inr ⟨sqT_off e1, q _ _ _ h (Stp.refl k.r) px⟩⟩
  · exact h.elim
theorem cd_list : CallD X (.type "list") listD := by
  intro pins s σ H xs us w O ds P Q I r k rp h q
  unfold listD at h
  split at h
  · obtain ⟨x, rfl, px⟩ := rps_one rp
    obtain ⟨a, ys, rfl, e1, r1⟩ := px.list_inv
    exact call_list_of pins s σ H _ us Q I r ⟨a, ys, rfl, .inl (SqL.of (off_some.mp e1).2), fun l hl => q _ _ _ h (Stp.laid k.r hl) (k.lst hl r1)⟩
  · obtain ⟨x, rfl, px⟩ := rps_one rp
    obtain ⟨a, ys, rfl, e1, r1⟩ := px.tup_inv
    exact call_list_of pins s σ H _ us Q I r ⟨a, ys, rfl, .inr (sqT_off e1), fun l hl => q _ _ _ h (Stp.laid k.r hl) (k.lst hl r1)⟩
  · exact h.elim

theorem Vals.get2 {xs : List V} : ∀ {us : List Value} {i : Nat} {u : Value}, Vals xs us → us[i]? = some u → ∃ x, xs[i]? = some x ∧ RelV x u := by
  induction xs with
  | nil => intro us i u h e; cases h; simp at e
  | cons x xs ih =>
    intro us i u h e
    cases h with
    | cons a b =>
      cases i with
      | zero => simp at e; subst e; exact ⟨x, by simp, a⟩
      | succ i => obtain ⟨y, e1, r⟩ := ih b (by simpa using e); exact ⟨y, by simpa using e1, r⟩
/-- an item picked out of a list by the library's rule -/
theorem picked {K : PySem.W.Frag} {Z : List Addr} {H : Hp} {ys : List V} {its : List Value} {ds : List D} {h' : Heap} {i : Nat} {v : Value} {d : D} {as bs : List Addr} {s : Shared}
    (rv : Vals ys its) (r1 : Rps K (off Z H) ys ds) (hr : ReadsAll s.heap its ds as) (hi : its.toArray[i]? = some v) (hd : Reads h' v d bs) (hk : ∀ b o, s.heap.get? b = some o → h'.get? b = some o) :
    ∃ y, RelV y v ∧ Rp K (off Z H) y d := by
  have hi' : its[i]? = some v := by simpa using hi
  obtain ⟨y, e1, ry⟩ := Vals.get2 rv hi'
  obtain ⟨d', e2, rd⟩ := r1.get' e1
  refine ⟨y, ry, ?_⟩
  obtain ⟨bs', r3, _⟩ := PySem.W.readsAll_at hr i v hi'
  have e3 : ds.getD i .none = d' := by rw [List.getD_eq_getElem?_getD, e2]; rfl
  rw [e3] at r3
  have := SeqAt.plain_unique d' d v bs' bs rd.plain (PyProof.Rows.Reads.keeps hk r3) hd
  rw [← this]; exact rd
theorem cd_minL (hc : X.calm = true) (hu : X.A.units + 102 < cLine) : CallD X (.builtin "min") minL := by
  intro pins s σ H xs us w O ds P Q I r k rp h q
  unfold minL at h
  split at h
  · obtain ⟨x, rfl, px⟩ := rps_one rp
    obtain ⟨a, ys, rfl, e1, r1⟩ := px.list_inv
    obtain ⟨⟨ha, hd⟩, h⟩ := h
    obtain ⟨u, rfl, ru⟩ := vals1 r
    cases ru
    obtain ⟨its, rv, hl, hz⟩ := I.list (SqL.of (off_some.mp e1).2)
    obtain ⟨as, hr⟩ := Inv.readsAll I rv r1
    refine PySem.W.min_list_data (I.ok.hd hc) hl.isList hr ha (by omega) fun i v h' tk bs hi hv hk => ?_
    obtain ⟨y, ry, rd⟩ := picked rv r1 hr hi hv hk
    exact ⟨y, H, I.kept hk, ry, q _ _ _ h (Stp.refl k.r) rd⟩
  · obtain ⟨x, rfl, px⟩ := rps_one rp
    obtain ⟨a, ys, rfl, e1, r1⟩ := px.tup_inv
    obtain ⟨⟨ha, hd⟩, h⟩ := h
    obtain ⟨u, rfl, ru⟩ := vals1 r
    cases ru
    obtain ⟨its, rv, hl, hz⟩ := I.tuple (sqT_off e1)
    obtain ⟨as, hr⟩ := Inv.readsAll I rv r1
    refine PySem.W.min_tuple_data (I.ok.hd hc) hl hr ha (by omega) fun i v h' tk bs hi hv hk => ?_
    obtain ⟨y, ry, rd⟩ := picked rv r1 hr hi hv hk
    exact ⟨y, H, I.kept hk, ry, q _ _ _ h (Stp.refl k.r) rd⟩
  · exact h.elim
theorem cd_maxL (hc : X.calm = true) (hu : X.A.units + 102 < cLine) : CallD X (.builtin "max") maxL := by
  intro pins s σ H xs us w O ds P Q I r k rp h q
  unfold maxL at h
  split at h
  · obtain ⟨x, rfl, px⟩ := rps_one rp
    obtain ⟨a, ys, rfl, e1, r1⟩ := px.list_inv
    obtain ⟨⟨ha, hd⟩, h⟩ := h
    obtain ⟨u, rfl, ru⟩ := vals1 r
    cases ru
    obtain ⟨its, rv, hl, hz⟩ := I.list (SqL.of (off_some.mp e1).2)
    obtain ⟨as, hr⟩ := Inv.readsAll I rv r1
    refine PySem.W.max_list_data (I.ok.hd hc) hl.isList hr ha (by omega) fun i v h' tk bs hi hv hk => ?_
    obtain ⟨y, ry, rd⟩ := picked rv r1 hr hi hv hk
    exact ⟨y, H, I.kept hk, ry, q _ _ _ h (Stp.refl k.r) rd⟩
  · obtain ⟨x, rfl, px⟩ := rps_one rp
    obtain ⟨a, ys, rfl, e1, r1⟩ := px.tup_inv
    obtain ⟨⟨ha, hd⟩, h⟩ := h
    obtain ⟨u, rfl, ru⟩ := vals1 r
    cases ru
    obtain ⟨its, rv, hl, hz⟩ := I.tuple (sqT_off e1)
    obtain ⟨as, hr⟩ := Inv.readsAll I rv r1
    refine PySem.W.max_tuple_data (I.ok.hd hc) hl hr ha (by omega) fun i v h' tk bs hi hv hk => ?_
    obtain ⟨y, ry, rd⟩ := picked rv r1 hr hi hv hk
    exact ⟨y, H, I.kept hk, ry, q _ _ _ h (Stp.refl k.r) rd⟩
  · exact h.elim
theorem depth_mem : ∀ {ds : List D} {d : D}, d ∈ ds → d.depth ≤ PyData.depthAll ds
  | x :: xs, d, h => by
    rw [PyData.depthAll]
    rcases List.mem_cons.mp h with rfl | h
    · exact Nat.le_max_left _ _
    · exact Nat.le_trans (depth_mem h) (Nat.le_max_right _ _)
theorem each_rps {K : PySem.W.Frag} {Hq : Hp} : ∀ {ys : List V} {its : List Value} {ds : List D}, Vals ys its → Rps K Hq ys ds → PySem.W.EachIs (fun v d => ∃ y, RelV y v ∧ Rp K Hq y d) its ds
  | [], _, _, .nil, h => by cases h; exact .nil
  | y :: ys, _, _, .cons a b, h => by
    cases h with | cons c d => exact .cons ⟨y, a, c⟩ (each_rps b d)
theorem rps_each {K : PySem.W.Frag} {Hq : Hp} {its : List Value} {ds : List D} (h : PySem.W.EachIs (fun v d => ∃ y, RelV y v ∧ Rp K Hq y d) its ds) : ∃ ys, Vals ys its ∧ Rps K Hq ys ds := by
  induction h with
  | nil => exact ⟨[], .nil, .nil⟩
  | cons a b ih =>
    obtain ⟨y, r, p⟩ := a
    obtain ⟨ys, rv, ps⟩ := ih
    exact ⟨y :: ys, .cons r rv, .cons p ps⟩
theorem cd_sorted (hu : X.A.units + 102 < cLine) : CallD X (.builtin "sorted") sortedD := by
  intro pins s σ H xs us w O ds P Q I r k rp h q
  unfold sortedD at h
  split at h
  · obtain ⟨x, rfl, px⟩ := rps_one rp
    obtain ⟨a, ys, rfl, e1, r1⟩ := px.list_inv
    obtain ⟨⟨hal, hso, hd⟩, h⟩ := h
    obtain ⟨u, rfl, ru⟩ := vals1 r
    cases ru
    obtain ⟨its, rv, hl, hz⟩ := I.list (SqL.of (off_some.mp e1).2)
    obtain ⟨as, hr⟩ := Inv.readsAll I rv r1
    rename_i dl
    have hr' : ReadsAll s.heap its (dl.map id) as := by rw [List.map_id]; exact hr
    refine PySem.W.sorted_data (enc := id) (R := fun v d => ∃ y, RelV y v ∧ Rp X.K (off (w.Z ++ O) H) y d) hl.isList (each_rps rv r1) (PySem.W.readsAll_each id hr') (by rw [List.map_id]; exact hal) (by rw [List.map_id]; exact hso)
      (by rw [← r1.length]; exact hz) (fun b hb => ?_) fun out hlen hout => ?_
    · have := depth_mem hb
      show X.A.units + 2 + b.depth < cLine
      omega
    · obtain ⟨zs, rz, pz⟩ := rps_each hout
      obtain ⟨ep, he'⟩ := PyProof.Rows.sortedAll_at s.heap its out.toArray
      have hn : H (s.heap.objs.size + 1) = none := I.hok.fresh (Nat.le_succ _)
      refine ⟨.ref _, upd H (s.heap.objs.size + 1) (.lst zs), I.laid (t' := s.toks) (fun _ _ => PyProof.Rows.sortedAll_old) (Nat.le_succ _) ⟨?_, _, ep, rz, he'⟩, rfl, q _ _ _ h (Stp.laid k.r hn) (k.lst hn pz)⟩
      rw [pz.length, List.length_mergeSort, ← r1.length]; exact hz
  · exact h.elim
end
end Dw

namespace Dw
open PySem PySem.Spec PyProof.Rows L2

/-! ### isinstance -/
def tyD : D → String
  | .none => "NoneType"
  | .bool _ => "bool"
  | .int _ => "int"
  | .str _ => "str"
  | .list _ => "list"
  | .tuple _ => "tuple"
  | .dict _ => "dict"
def dIsi (g : D → Bool) (fa : DE) : DE := fun ρ P => fa ρ fun x => P (.bool (g x))
section
variable {X : Cx} {a b c e : Expr} {es : List Expr} {fa fb fc : DE} {ta tb tc : DT} {fas : DA} {pos : Pos}
theorem tyX_of {K : PySem.W.Frag} {H : Hp} {x : V} {d : D} (h : Rp K H x d) : TyX K H x (.type (tyD d)) := by
  cases h with
  | non => exact .base .non
  | bl b => exact .base (.bl b)
  | int i => exact .base (.int i)
  | str x => exact .base (.str x)
  | lst e r => exact .base (.lst e)
  | tup e r =>
    rcases e with (e | ⟨o, e⟩) | ⟨o, its, n, e, e2, _⟩
    · exact .base (.tup e)
    · exact .fTuple e
    · exact .kTuple e e2
theorem tyX_mono {K : PySem.W.Frag} {H H' : Hp} {x : V} {d : D} (h : Rp K H x d) (s : Same H H') : TyX K H' x (.type (tyD d)) := tyX_of (h.mono s)
theorem qe_isi {T : String} {g : D → Bool} {p p2 : Pos} {tn : Str} (hT : ∀ d : D, kitB (tyD d) T = some (g d)) (hg : Gl X "isinstance") (hm : X.mg "isinstance" = none) (hg2 : Gl X tn) (hm2 : X.mg tn = none) (hv2 : bootBuiltins tn = some (.type T))
    (hn2 : tn ≠ "__name__") (hdb2 : (tn == ("__debug__" : Str)) = false) (ha : QE X a fa)
    (hs1 : starEach [a, .Name tn p2] X.env = (false, eval a X.env) :: starEach [.Name tn p2] X.env := by rfl) (hs2 : starEach [.Name tn p2] X.env = (false, eval (.Name tn p2) X.env) :: starEach [] X.env := by rfl) (hpl : (backTo pos (starEach [.Name tn p2] X.env)).any (·.1) = false := by rfl) :
    QE X (.Call (.Name "isinstance" p) [a, .Name tn p2] [] pos) (dIsi g fa) :=
  ⟨pe_imp (pe_callB call_isi hg hm (by decide +kernel) (pa_cons ha.pe (pa_cons (pe_bltn (v := .ty T) hg2 hm2 hv2 rfl hn2 hdb2) pa_nil hs2) hs1) (by decide) (by decide) hs1 hpl) fun σ H Q ⟨w, H0, kp, O, ρ, P, rep, h, q⟩ => rep.go h fun d v H1 h1 s1 rep1 r1 =>
    ⟨v, .ty T, .type (tyD d), .type T, g d, rfl, .ty T, tyX_mono r1 off_le, kit_ty (hT d), q _ _ _ h1 s1 (.bl _)⟩⟩
theorem kb_NoneType_int : kitB "NoneType" "int" = some false := by decide +kernel
theorem kb_bool_int : kitB "bool" "int" = some true := by decide +kernel
theorem kb_int_int : kitB "int" "int" = some true := by decide +kernel
theorem kb_str_int : kitB "str" "int" = some false := by decide +kernel
theorem kb_list_int : kitB "list" "int" = some false := by decide +kernel
theorem kb_tuple_int : kitB "tuple" "int" = some false := by decide +kernel
theorem kb_dict_int : kitB "dict" "int" = some false := by decide +kernel
theorem kT_int : ∀ d : D, kitB (tyD d) "int" = some (PyData.isInt d)
  | .none => kb_NoneType_int
  | .bool b => kb_bool_int
  | .int b => kb_int_int
  | .str b => kb_str_int
  | .list b => kb_list_int
  | .tuple b => kb_tuple_int
  | .dict b => kb_dict_int
theorem kb_NoneType_bool : kitB "NoneType" "bool" = some false := by decide +kernel
theorem kb_bool_bool : kitB "bool" "bool" = some true := by decide +kernel
theorem kb_int_bool : kitB "int" "bool" = some false := by decide +kernel
theorem kb_str_bool : kitB "str" "bool" = some false := by decide +kernel
theorem kb_list_bool : kitB "list" "bool" = some false := by decide +kernel
theorem kb_tuple_bool : kitB "tuple" "bool" = some false := by decide +kernel
theorem kb_dict_bool : kitB "dict" "bool" = some false := by decide +kernel
theorem kT_bool : ∀ d : D, kitB (tyD d) "bool" = some (PyData.isBool d)
  | .none => kb_NoneType_bool
  | .bool b => kb_bool_bool
  | .int b => kb_int_bool
  | .str b => kb_str_bool
  | .list b => kb_list_bool
  | .tuple b => kb_tuple_bool
  | .dict b => kb_dict_bool
theorem kb_NoneType_str : kitB "NoneType" "str" = some false := by decide +kernel
theorem kb_bool_str : kitB "bool" "str" = some false := by decide +kernel
theorem kb_int_str : kitB "int" "str" = some false := by decide +kernel
theorem kb_str_str : kitB "str" "str" = some true := by decide +kernel
theorem kb_list_str : kitB "list" "str" = some false := by decide +kernel
theorem kb_tuple_str : kitB "tuple" "str" = some false := by decide +kernel
theorem kb_dict_str : kitB "dict" "str" = some false := by decide +kernel
theorem kT_str : ∀ d : D, kitB (tyD d) "str" = some (PyData.isStr d)
  | .none => kb_NoneType_str
  | .bool b => kb_bool_str
  | .int b => kb_int_str
  | .str b => kb_str_str
  | .list b => kb_list_str
  | .tuple b => kb_tuple_str
  | .dict b => kb_dict_str
theorem kb_NoneType_list : kitB "NoneType" "list" = some false := by decide +kernel
theorem kb_bool_list : kitB "bool" "list" = some false := by decide +kernel
theorem kb_int_list : kitB "int" "list" = some false := by decide +kernel
theorem kb_str_list : kitB "str" "list" = some false := by decide +kernel
theorem kb_list_list : kitB "list" "list" = some true := by decide +kernel
theorem kb_tuple_list : kitB "tuple" "list" = some false := by decide +kernel
theorem kb_dict_list : kitB "dict" "list" = some false := by decide +kernel
theorem kT_list : ∀ d : D, kitB (tyD d) "list" = some (PyData.isList d)
  | .none => kb_NoneType_list
  | .bool b => kb_bool_list
  | .int b => kb_int_list
  | .str b => kb_str_list
  | .list b => kb_list_list
  | .tuple b => kb_tuple_list
  | .dict b => kb_dict_list
theorem kb_NoneType_tuple : kitB "NoneType" "tuple" = some false := by decide +kernel
theorem kb_bool_tuple : kitB "bool" "tuple" = some false := by decide +kernel
theorem kb_int_tuple : kitB "int" "tuple" = some false := by decide +kernel
theorem kb_str_tuple : kitB "str" "tuple" = some false := by decide +kernel
theorem kb_list_tuple : kitB "list" "tuple" = some false := by decide +kernel
theorem kb_tuple_tuple : kitB "tuple" "tuple" = some true := by decide +kernel
theorem kb_dict_tuple : kitB "dict" "tuple" = some false := by decide +kernel
theorem kT_tuple : ∀ d : D, kitB (tyD d) "tuple" = some (PyData.isTuple d)
  | .none => kb_NoneType_tuple
  | .bool b => kb_bool_tuple
  | .int b => kb_int_tuple
  | .str b => kb_str_tuple
  | .list b => kb_list_tuple
  | .tuple b => kb_tuple_tuple
  | .dict b => kb_dict_tuple

/-! ### subscripts, slices -/
def ixD : G2 := fun x y P => match x, y with
  | .list ds, .int i => ∃ d, atI ds i = some d ∧ P d
  | .tuple ds, .int i => ∃ d, atI ds i = some d ∧ P d
  | _, _ => False
theorem Rps.atI {K : PySem.W.Frag} {H : Hp} {vs : List V} {ds : List D} {i : Int} {d : D} (h : Rps K H vs ds) (e : L2.atI ds i = some d) : ∃ v, L2.atI vs i = some v ∧ Rp K H v d := by
  unfold L2.atI at e ⊢
  rw [h.length]
  cases q : ixN ds.length i with
  | none => rw [q] at e; simp at e
  | some j =>
    rw [q] at e
    simp only [Option.bind_some] at e ⊢
    exact h.get e
theorem qe_ix (ha : QE X a fa) (hb : QE X b fb) (hs : PlainIx b) : QE X (.Subscript a b pos) (dOp ixD fa fb) := by
  refine ⟨⟨fun pins s σ H Q I h => ?_⟩⟩
  obtain ⟨w, H0, kp, O, ρ, P, rep, h, q⟩ := h
  refine Subscript_ (bin2 ha hb I rep h fun v u s2 x y H2 dx dy I2 rx ry st rep2 px py r => ?_)
  unfold ixD at r
  split at r
  · obtain ⟨d, e, p⟩ := r
    obtain ⟨l, xs, rfl, e1, r1⟩ := px.list_inv
    cases py
    obtain ⟨z, e2, rz⟩ := r1.atI e
    exact ix_list a b pins s2 σ H2 _ _ v u Q I2 rx ry ⟨l, xs, _, z, rfl, rfl, SqL.of (off_some.mp e1).2, e2, q _ _ _ p st rz⟩ (hs _ _)
  · obtain ⟨d, e, p⟩ := r
    obtain ⟨l, xs, rfl, e1, r1⟩ := px.tup_inv
    cases py
    obtain ⟨z, e2, rz⟩ := r1.atI e
    exact ix_tup a b pins s2 σ H2 _ _ v u Q I2 rx ry ⟨l, xs, _, z, rfl, rfl, sqT_off e1, e2, q _ _ _ p st rz⟩ (hs _ _)
  · exact r.elim
/-- a part of a slice -/
abbrev DO := Env → (Option Int → Prop) → Prop
def QRO (K : PySem.W.Frag) (f : DO) : TO := fun σ H Q => ∃ (w : Wd) (H0 : Hp) (kp : List (V × D)) (O : List Addr) (ρ : Env) (P : Option Int → Prop), Rep K w H0 kp O H σ ρ ∧ f ρ P ∧
  ∀ o H', P o → Stp w H H' → Q o H'
structure QO (X : Cx) (e : Option Expr) (f : DO) : Prop where
  po : PO X e (QRO X.K f)
def dNo : DO := fun _ P => P none
def dPart (f : DE) : DO := fun ρ P => f ρ fun x => ∃ i, x = .int i ∧ P (some i)
theorem po_imp {e : Option Expr} {t t' : TO} (h : PO X e t) (i : ∀ σ H Q, t' σ H Q → t σ H Q) : PO X e t' := ⟨fun pins s σ H Q I q => h.run pins s σ H Q I (i _ _ _ q)⟩
theorem qo_none : QO X none dNo := ⟨po_imp po_none fun σ H Q ⟨w, H0, kp, O, ρ, P, rep, h, q⟩ => q _ _ h (Stp.refl rep.r)⟩
theorem qo_some (ha : QE X a fa) : QO X (some a) (dPart fa) := ⟨po_imp (po_some ha.pe) fun σ H Q ⟨w, H0, kp, O, ρ, P, rep, h, q⟩ => rep.go h fun d v H1 ⟨i, e, p⟩ s1 rep1 r1 => by
  subst e; exact ⟨i, r1.int_inv, q _ _ p s1⟩⟩
def cutD (ds : List D) (lo hi : Option Int) : List D := (ds.drop (HT.sIx ds.length 0 lo)).take (HT.sIx ds.length ds.length hi - HT.sIx ds.length 0 lo)
def slD (x : D) (lo hi : Option Int) (P : D → Prop) : Prop := match x with
  | .list ds => P (.list (cutD ds lo hi))
  | .tuple ds => P (.tuple (cutD ds lo hi))
  | _ => False
def dSl (fa : DE) (fl fh : DO) : DE := fun ρ P => fa ρ fun x => fl ρ fun lo => fh ρ fun hi => slD x lo hi P
theorem Rps.cut {K : PySem.W.Frag} {H : Hp} {vs : List V} {ds : List D} (h : Rps K H vs ds) (lo hi : Option Int) : Rps K H (cutV vs lo hi) (cutD ds lo hi) := by
  unfold cutV cutD
  rw [h.length]
  exact (h.drop _).take _
theorem cut_whole {ds : List D} {lo hi : Option Int} (h : HT.sIx ds.length 0 lo = 0 ∧ HT.sIx ds.length ds.length hi = ds.length) : cutD ds lo hi = ds := by
  unfold cutD
  rw [h.1, h.2]; simp
theorem Rep.goO {K : PySem.W.Frag} {w : Wd} {H0 H : Hp} {kp : List (V × D)} {O : List Addr} {σ : L2.St} {ρ : Env} {f : DO} {P : Option Int → Prop} {Q : Option Int → Hp → Prop} (rep : Rep K w H0 kp O H σ ρ) (h : f ρ P)
    (k : ∀ o H', P o → Stp w H H' → Rep K w H0 kp O H' σ ρ → Q o H') : QRO K f σ H Q :=
  ⟨w, H0, kp, O, ρ, P, rep, h, fun d H' p s => k d H' p s (rep.stp s)⟩
theorem qe_slice {lo hi : Option Expr} {fl fh : DO} {p2 : Pos} (ha : QE X a fa) (hl : QO X lo fl) (hh : QO X hi fh) : QE X (.Subscript a (.Slice lo hi none p2) pos) (dSl fa fl fh) :=
  ⟨pe_imp (pe_slice (sl_list.or sl_tupA) ha.pe hl.po hh.po) fun σ H Q ⟨w, H0, kp, O, ρ, P, rep, h, q⟩ => rep.go h fun x v H1 h1 s1 rep1 r1 => rep1.goO h1 fun lo H2 h2 s2 rep2 => rep2.goO h2 fun hi H3 h3 s3 rep3 => by
    have r3 := r1.mono ((rep1.off s2).trans (rep2.off s3))
    have st := (s1.trans s2).trans s3
    unfold slD at h3
    split at h3
    · obtain ⟨l, xs, rfl, e1, r⟩ := r3.list_inv
      exact .inl ⟨l, xs, rfl, SqL.of (off_some.mp e1).2, fun p hp => q _ _ _ h3 (st.trans (Stp.laid rep3.r hp)) (rep3.wok.lst hp (r.cut _ _))⟩
    · obtain ⟨l, xs, rfl, e1, r⟩ := r3.tup_inv
      refine .inr ⟨l, xs, rfl, sqT_off e1, fun hw => ?_, fun _ p hp => q _ _ _ h3 (st.trans (Stp.laid rep3.r hp)) (rep3.wok.tup hp (r.cut _ _))⟩
      rw [r.length] at hw
      rw [cut_whole hw] at h3
      exact q _ _ _ h3 st r3
    · exact h3.elim⟩
end

/-! ### what a loop walks -/
def ItIs (K : PySem.W.Frag) (J : It) (keep : List (V × D)) (ds : List D) : Prop :=
  ∀ (w : Wd) (O : List Addr) (H : Hp), Wok w O H → (∀ p ∈ keep, Rp K (off (w.Z ++ O) H) p.1 p.2) →
    (∀ (i : Nat) (d : D), ds[i]? = some d → J.go i H ∧ ∀ x H', J.yld i H x H' → Stp w H H' ∧ Rp K (off (w.Z ++ O) H') x d) ∧ J.stop ds.length H
abbrev DI := Env → (List D → Prop) → Prop
def QRI (K : PySem.W.Frag) (f : DI) : TI := fun σ H R => ∃ (w : Wd) (H0 : Hp) (kp : List (V × D)) (O : List Addr) (ρ : Env) (P : List D → Prop), Rep K w H0 kp O H σ ρ ∧ f ρ P ∧
  ∀ ds J keep H', P ds → Stp w H H' → (∀ p ∈ keep, Rp K (off (w.Z ++ O) H') p.1 p.2) → ItIs K J keep ds → R J H'
structure QI (X : Cx) (tg iter : Expr) (f : DI) : Prop where
  pi : PI X tg iter (QRI X.K f)
theorem pi_imp {X : Cx} {tg iter : Expr} {t t' : TI} (h : PI X tg iter t) (i : ∀ σ H R, t' σ H R → t σ H R) : PI X tg iter t' := ⟨fun pins s σ H R I q => h.run pins s σ H R I (i _ _ _ q)⟩
def dSeqL (fa : DE) : DI := fun ρ P => fa ρ fun x => match x with | .list ds => P ds | _ => False
def dSeqT (fa : DE) : DI := fun ρ P => fa ρ fun x => match x with | .tuple ds => P ds | _ => False
def rngD (a b : Int) : List D := (List.range (b - a).toNat).map fun i => .int (a + (i : Nat))
def dRng1 (fa : DE) : DI := fun ρ P => fa ρ fun x => match x with | .int n => (-(2 ^ 62) ≤ n ∧ n < 2 ^ 62) ∧ P (rngD 0 n) | _ => False
def dRng2 (fa fb : DE) : DI := fun ρ P => fa ρ fun x => fb ρ fun y => match x, y with | .int m, .int n => (-(2 ^ 62) ≤ m ∧ m < 2 ^ 62 ∧ -(2 ^ 62) ≤ n ∧ n < 2 ^ 62) ∧ P (rngD m n) | _, _ => False
theorem rngD_length (a b : Int) : (rngD a b).length = (b - a).toNat := by simp [rngD]
section
variable {X : Cx} {tg a b e : Expr} {fa fb : DE} {pos : Pos}
theorem isL {K : PySem.W.Frag} (a : Addr) (ds : List D) : ItIs K (Itl K a) [(.ref a, .list ds)] ds := fun w O H k hk => by
  have r := hk _ (List.mem_singleton.mpr rfl)
  obtain ⟨a', xs, e, e1, rs⟩ := r.list_inv
  cases e
  have hs : SqL K H a xs := SqL.of (off_some.mp e1).2
  refine ⟨fun i d hd => ?_, ⟨xs, hs, by rw [rs.length]; exact Nat.le_refl _⟩⟩
  obtain ⟨v, e2, r2⟩ := rs.get hd
  refine ⟨⟨xs, v, hs, e2⟩, fun x H' y => ?_⟩
  obtain ⟨rfl, y⟩ := y
  have := y xs hs
  rw [e2] at this
  cases this
  exact ⟨Stp.refl k.r, r2⟩
theorem isT {K : PySem.W.Frag} (a : Addr) (ds : List D) : ItIs K (Itt K a) [(.ref a, .tuple ds)] ds := fun w O H k hk => by
  have r := hk _ (List.mem_singleton.mpr rfl)
  obtain ⟨a', xs, e, e1, rs⟩ := r.tup_inv
  cases e
  have hs : SqT K H a xs := sqT_off e1
  refine ⟨fun i d hd => ?_, ⟨xs, hs, by rw [rs.length]; exact Nat.le_refl _⟩⟩
  obtain ⟨v, e2, r2⟩ := rs.get hd
  refine ⟨⟨xs, v, hs, e2⟩, fun x H' y => ?_⟩
  obtain ⟨rfl, y⟩ := y
  have := y xs hs
  rw [e2] at this
  cases this
  exact ⟨Stp.refl k.r, r2⟩
theorem isR {K : PySem.W.Frag} (lo hi : Int) : ItIs K (Itr lo (hi - lo).toNat) [] (rngD lo hi) := fun w O H k _ => by
  refine ⟨fun i d hd => ?_, by rw [rngD_length]; exact Nat.le_refl _⟩
  have hi' : i < (hi - lo).toNat := by
    have := (List.getElem?_eq_some_iff.mp hd).1
    rwa [rngD_length] at this
  refine ⟨hi', fun x H' y => ?_⟩
  obtain ⟨rfl, rfl⟩ := y
  refine ⟨Stp.refl k.r, ?_⟩
  have e : d = .int (lo + (i : Nat)) := by
    unfold rngD at hd
    rw [List.getElem?_map, List.getElem?_range hi'] at hd
    exact (Option.some.inj hd).symm
  subst e
  exact .int _
theorem qi_list (ha : QE X a fa) : QI X tg a (dSeqL fa) :=
  ⟨pi_imp (pi_list ha.pe) fun σ H R ⟨w, H0, kp, O, ρ, P, rep, h, q⟩ => rep.go h fun d v H1 h1 s1 rep1 r1 => by
    cases d <;> simp only at h1
    obtain ⟨l, xs, rfl, e1, r⟩ := r1.list_inv
    exact ⟨l, rfl, ⟨xs, SqL.of (off_some.mp e1).2⟩, q _ _ _ _ h1 s1 (fun p hp => by rw [List.mem_singleton.mp hp]; exact r1) (isL l _)⟩⟩
theorem qi_tup (ha : QE X a fa) : QI X tg a (dSeqT fa) :=
  ⟨pi_imp (pi_tup ha.pe) fun σ H R ⟨w, H0, kp, O, ρ, P, rep, h, q⟩ => rep.go h fun d v H1 h1 s1 rep1 r1 => by
    cases d <;> simp only at h1
    obtain ⟨l, xs, rfl, e1, r⟩ := r1.tup_inv
    exact ⟨l, rfl, ⟨xs, sqT_off e1⟩, q _ _ _ _ h1 s1 (fun p hp => by rw [List.mem_singleton.mp hp]; exact r1) (isT l _)⟩⟩
theorem qi_rng1 {p : Pos} (hg : Gl X "range") (hm : X.mg "range" = none) (ha : QE X a fa) (hs : starEach [a] X.env = [(false, eval a X.env)] := by rfl) : QI X tg (.Call (.Name "range" p) [a] [] pos) (dRng1 fa) :=
  ⟨pi_imp (pi_range1 hg hm (pa_cons ha.pe pa_nil hs) hs) fun σ H R ⟨w, H0, kp, O, ρ, P, rep, h, q⟩ => rep.go h fun d v H1 h1 s1 rep1 r1 => by
    cases d <;> simp only at h1
    cases r1
    rename_i i
    have e := isR (K := X.K) 0 i
    rw [Int.sub_zero] at e
    exact ⟨i, rfl, h1.1.1, h1.1.2, q _ _ [] _ h1.2 s1 (fun p hp => by cases hp) e⟩⟩
theorem qi_rng2 {p : Pos} (hg : Gl X "range") (hm : X.mg "range" = none) (ha : QE X a fa) (hb : QE X b fb) (hs : starEach [a, b] X.env = [(false, eval a X.env), (false, eval b X.env)] := by rfl) (hs2 : starEach [b] X.env = [(false, eval b X.env)] := by rfl) :
    QI X tg (.Call (.Name "range" p) [a, b] [] pos) (dRng2 fa fb) :=
  ⟨pi_imp (pi_range2 hg hm (pa_cons ha.pe (pa_cons hb.pe pa_nil hs2) (by rw [hs, hs2])) hs hs2) fun σ H R ⟨w, H0, kp, O, ρ, P, rep, h, q⟩ => rep.go h fun d v H1 h1 s1 rep1 r1 => rep1.go h1 fun d2 v2 H2 h2 s2 rep2 r2 => by
    cases d <;> cases d2 <;> simp only at h2
    cases r1; cases r2
    exact ⟨_, _, rfl, h2.1, q _ _ [] _ h2.2 (s1.trans s2) (fun p hp => by cases hp) (isR _ _)⟩⟩
end
end Dw

namespace Dw
open PySem PySem.Spec PyProof.Rows L2

/-! ### stores to names -/
section
variable {K : PySem.W.Frag} {w : Wd} {H0 H H' : Hp} {kp : List (V × D)} {O : List Addr} {σ : L2.St} {ρ : Env}
theorem Rep.setD (rep : Rep K w H0 kp O H σ ρ) (i : Nat) {v : V} {x : D} (r : Rp K (Dw.off (w.Z ++ O) H) v x) : Rep K w H0 kp O H (σ.set i (some v)) (ρ.set i (some (.d x))) := by
  refine ⟨rep.r, rep.s0, rep.o0, rep.oS, rep.kp, by simp [rep.len], fun j e h => ?_, fun j k ds es u hne h1 h2 h3 => ?_⟩
  · by_cases hj : i = j
    · subst hj
      by_cases hi : i < ρ.length
      · rw [List.getElem?_set_self hi] at h
        cases h
        exact ⟨v, List.getElem?_set_self (by rw [← rep.len]; exact hi), r⟩
      · rw [List.getElem?_eq_none (by simpa using hi)] at h; cases h
    · rw [List.getElem?_set_ne hj] at h
      obtain ⟨u, e1, e2⟩ := rep.var j e h
      exact ⟨u, by rw [List.getElem?_set_ne hj]; exact e1, e2⟩
  · have a : ∀ j (ds : List D), (ρ.set i (some (.d x)))[j]? = some (some (.own ds)) → i ≠ j ∧ ρ[j]? = some (some (.own ds)) := fun j ds h => by
      by_cases hj : i = j
      · subst hj
        by_cases hi : i < ρ.length
        · rw [List.getElem?_set_self hi] at h; cases h
        · rw [List.getElem?_eq_none (by simpa using hi)] at h; cases h
      · rw [List.getElem?_set_ne hj] at h; exact ⟨hj, h⟩
    obtain ⟨n1, e1⟩ := a j ds h1
    obtain ⟨n2, e2⟩ := a k es h2
    rw [List.getElem?_set_ne n1] at h3
    rw [List.getElem?_set_ne n2]
    exact rep.apart j k ds es u hne e1 e2 h3
theorem Rep.weak (rep : Rep K w H0 kp O H σ ρ) {σ' : L2.St} {ρ' : Env} (hl : ρ'.length = σ'.length) (h : ∀ (i : Nat) (e : Ent), ρ'[i]? = some (some e) → ρ[i]? = some (some e) ∧ σ'[i]? = σ[i]?) : Rep K w H0 kp O H σ' ρ' :=
  ⟨rep.r, rep.s0, rep.o0, rep.oS, rep.kp, hl, fun i e q => let ⟨q1, q2⟩ := h i e q; let ⟨v, e1, e2⟩ := rep.var i e q1; ⟨v, by rw [q2]; exact e1, e2⟩,
    fun i j ds es v hne q1 q2 q3 => by
      obtain ⟨a1, a2⟩ := h i _ q1
      obtain ⟨b1, b2⟩ := h j _ q2
      rw [a2] at q3
      rw [b2]
      exact rep.apart i j ds es v hne a1 b1 q3⟩
def wipeE (ρ : Env) : List Nat → Env
  | [] => ρ
  | v :: vs => (wipeE ρ vs).set v none
theorem wipeE_length (ρ : Env) : ∀ vs : List Nat, (wipeE ρ vs).length = ρ.length
  | [] => rfl
  | v :: vs => by unfold wipeE; rw [List.length_set, wipeE_length ρ vs]
theorem wipeE_some {ρ : Env} {i : Nat} {x : Ent} : ∀ {vs : List Nat}, (wipeE ρ vs)[i]? = some (some x) → ρ[i]? = some (some x) ∧ i ∉ vs
  | [], h => ⟨h, by simp⟩
  | v :: vs, h => by
    unfold wipeE at h
    by_cases hi : v = i
    · subst hi
      by_cases hv : v < (wipeE ρ vs).length
      · rw [List.getElem?_set_self hv] at h; cases h
      · rw [List.getElem?_eq_none (by simpa using hv)] at h; cases h
    · rw [List.getElem?_set_ne hi] at h
      obtain ⟨h1, h2⟩ := wipeE_some h
      exact ⟨h1, by simp only [List.mem_cons, not_or]; exact ⟨fun e => hi e.symm, h2⟩⟩
theorem Rep.wipe (rep : Rep K w H0 kp O H σ ρ) (vs : List Nat) : Rep K w H0 kp O H (L2.wipe σ vs) (wipeE ρ vs) :=
  rep.weak (by rw [wipeE_length, wipe_length, rep.len]) fun i e h => by
    obtain ⟨h1, h2⟩ := wipeE_some h
    exact ⟨h1, wipe_out h2⟩
theorem wipe_ext {σ σ' : L2.St} {vs : List Nat} (hl : σ'.length = σ.length) (h : ∀ i, i ∉ vs → σ'[i]? = σ[i]?) : L2.wipe σ' vs = L2.wipe σ vs := by
  apply List.ext_getElem?
  intro i
  by_cases hi : i ∈ vs
  · have a : ∀ (τ : L2.St), (L2.wipe τ vs)[i]? = if i < τ.length then some none else none := by
      intro τ
      clear h hl
      induction vs with
      | nil => simp at hi
      | cons v vs ih =>
        unfold L2.wipe
        by_cases e : v = i
        · subst e
          by_cases q : v < τ.length
          · rw [List.getElem?_set_self (by rw [wipe_length]; exact q), if_pos q]
          · rw [List.getElem?_eq_none (by rw [List.length_set, wipe_length]; omega), if_neg q]
        · rw [List.getElem?_set_ne e]
          exact ih (by rcases List.mem_cons.mp hi with r | r; exact absurd r.symm e; exact r)
    rw [a, a, hl]
  · rw [wipe_out hi, wipe_out hi, h i hi]
theorem Rep.keep (rep : Rep K w H0 kp O H σ ρ) {keep : List (V × D)} (h : ∀ p ∈ keep, Rp K (Dw.off (w.Z ++ O) H) p.1 p.2) : Rep K w H0 (keep ++ kp) O H σ ρ :=
  ⟨rep.r, rep.s0, rep.o0, rep.oS, fun p hp => (List.mem_append.mp hp).elim (h p) (rep.kp p), rep.len, rep.var, rep.apart⟩
end

/-! ### targets -/
abbrev DG := D → Env → (Env → Prop) → Prop
abbrev DGs := List D → Env → (Env → Prop) → Prop
def QRG (K : PySem.W.Frag) (g : DG) (is : List Nat) : TG := fun v σ H Q => ∃ (w : Wd) (H0 : Hp) (kp : List (V × D)) (O : List Addr) (ρ : Env) (d : D) (P : Env → Prop), Rep K w H0 kp O H σ ρ ∧ Rp K (off (w.Z ++ O) H) v d ∧ g d ρ P ∧
  ∀ ρ' σ' H', P ρ' → Stp w H H' → Rep K w H0 kp O H' σ' ρ' → (∀ i, i ∉ is → σ'[i]? = σ[i]?) → σ'.length = σ.length → Q σ' H'
def QRGs (K : PySem.W.Frag) (g : DGs) (is : List Nat) : TGs := fun vs σ H Q => ∃ (w : Wd) (H0 : Hp) (kp : List (V × D)) (O : List Addr) (ρ : Env) (ds : List D) (P : Env → Prop), Rep K w H0 kp O H σ ρ ∧ Rps K (off (w.Z ++ O) H) vs ds ∧ g ds ρ P ∧
  ∀ ρ' σ' H', P ρ' → Stp w H H' → Rep K w H0 kp O H' σ' ρ' → (∀ i, i ∉ is → σ'[i]? = σ[i]?) → σ'.length = σ.length → Q σ' H'
structure QG (X : Cx) (tg : Expr) (g : DG) (is : List Nat) : Prop where
  pg : PG X tg (QRG X.K g is)
structure QGs (X : Cx) (tgs : List Expr) (g : DGs) (is : List Nat) : Prop where
  pgs : PGs X tgs (QRGs X.K g is)
def gN (i : Nat) : DG := fun d ρ P => P (ρ.set i (some (.d d)))
def gNilD : DGs := fun ds ρ P => ds = [] ∧ P ρ
def gConsD (g : DG) (h : DGs) : DGs := fun ds ρ P => match ds with
  | [] => False
  | d :: r => g d ρ fun ρ' => h r ρ' P
def gTupD (n : Nat) (h : DGs) : DG := fun d ρ P => match d with
  | .tuple ds => ds.length = n ∧ h ds ρ P
  | _ => False
theorem pg_imp {X : Cx} {tg : Expr} {t t' : TG} (h : PG X tg t) (i : ∀ v σ H Q, t' v σ H Q → t v σ H Q) : PG X tg t' := ⟨fun pins s σ H v u Q I r q => h.run pins s σ H v u Q I r (i _ _ _ _ q)⟩
theorem pgs_imp {X : Cx} {tg : List Expr} {t t' : TGs} (h : PGs X tg t) (i : ∀ v σ H Q, t' v σ H Q → t v σ H Q) : PGs X tg t' := ⟨fun pins s σ H v u Q I r q => h.run pins s σ H v u Q I r (i _ _ _ _ q)⟩
section
variable {X : Cx} {pos : Pos}
theorem qg_name {i : Nat} {x : Str} (hN : X.N.Nodup) (hi : X.N[i]? = some x) (hx : Loc X.env.scope x) (hf : X.fn x = true ∨ X.env.scope.names.lookup x = some .local := by first | exact .inl rfl | exact .inr rfl | assumption) : QG X (.Name x pos) (gN i) [i] :=
  ⟨pg_imp (pg_name hN hi hx hf) fun v σ H Q ⟨w, H0, kp, O, ρ, d, P, rep, rd, h, q⟩ =>
    q _ _ _ h (Stp.refl rep.r) (rep.setD i rd) (fun j hj => List.getElem?_set_ne (fun e => hj (by simp [e]))) (by simp)⟩
theorem qgs_nil : QGs X [] gNilD [] :=
  ⟨pgs_imp pgs_nil fun v σ H Q ⟨w, H0, kp, O, ρ, d, P, rep, rd, ⟨e, h⟩, q⟩ => by
    subst e; cases rd; exact ⟨rfl, q _ _ _ h (Stp.refl rep.r) rep (fun _ _ => rfl) rfl⟩⟩
theorem qgs_cons {e : Expr} {es : List Expr} {g : DG} {h : DGs} {is js : List Nat} (h1 : QG X e g is) (h2 : QGs X es h js)
    (hs : (assignEach (e :: es) X.env).map (·.2) = assign e X.env :: (assignEach es X.env).map (·.2) := by rfl) : QGs X (e :: es) (gConsD g h) (is ++ js) :=
  ⟨pgs_imp (pgs_cons h1.pg h2.pgs hs) fun v σ H Q ⟨w, H0, kp, O, ρ, ds, P, rep, rd, hh, q⟩ => by
    cases rd with
    | nil => exact hh.elim
    | cons a b =>
      refine ⟨_, _, rfl, w, H0, kp, O, ρ, _, _, rep, a, hh, fun ρ1 σ1 H1 p1 s1 rep1 f1 l1 => ?_⟩
      exact ⟨w, H0, kp, O, ρ1, _, P, rep1, b.mono (rep.off s1), p1, fun ρ2 σ2 H2 p2 s2 rep2 f2 l2 => q _ _ _ p2 (s1.trans s2) rep2 (fun i hi => by
        rw [f2 i fun z => hi (List.mem_append_right _ z), f1 i fun z => hi (List.mem_append_left _ z)]) (l2.trans l1)⟩⟩
theorem qg_tup {es : List Expr} {k : Nat} {g : DGs} {is : List Nat} {n : Nat} (hc : X.calm = true) (h : QGs X es g is)
    (hn : (assignEach es X.env).length = n := by rfl) (hst : (assignEach es X.env).findIdx? (·.1) = none := by rfl) : QG X (.Tuple es k pos) (gTupD n g) is :=
  ⟨pg_imp (pg_tup hc h.pgs hn hst) fun v σ H Q ⟨w, H0, kp, O, ρ, d, P, rep, rd, hh, q⟩ => by
    cases d <;> simp only [gTupD] at hh
    obtain ⟨a, xs, rfl, e1, r1⟩ := rd.tup_inv
    exact ⟨a, xs, rfl, sqT_off e1, by rw [r1.length]; exact hh.1, w, H0, kp, O, ρ, _, P, rep, r1, hh.2, q⟩⟩
end

/-! ### list comprehensions -/
/-- a clause's tests -/
structure QTs (X : Cx) (ifs : List Expr) (t : DT) : Prop where
  pts : PTs X ifs (QRT X.K t)
def dYes : DT := fun _ P => P true
theorem pts_imp {X : Cx} {ifs : List Expr} {t t' : TT} (h : PTs X ifs t) (i : ∀ σ H Q, t' σ H Q → t σ H Q) : PTs X ifs t' := ⟨fun pins s σ H Q I q => h.run pins s σ H Q I (i _ _ _ q)⟩
theorem qts_nil {X : Cx} : QTs X [] dYes := ⟨pts_imp pts_nil fun σ H Q ⟨w, H0, kp, O, ρ, P, rep, h, q⟩ => q _ _ h (Stp.refl rep.r)⟩
theorem qts_one {X : Cx} {c : Expr} {t : DT} (h : QT X c t) : QTs X [c] t := ⟨pts_one h.pt⟩
def wComp (g : DG) (tt : DT) (te : DE) (ρ : Env) : List D → List D → (List D → Prop) → Prop
  | [], acc, P => P acc
  | d :: ds, acc, P => g d ρ fun ρ2 => tt ρ2 fun b => if b = true then te ρ2 fun y => acc.length < sizeLine ∧ wComp g tt te ρ ds (acc ++ [y]) P else wComp g tt te ρ ds acc P
def dComp (it : DI) (g : DG) (tt : DT) (te : DE) (own : List Nat) : DE := fun ρ P => it ρ fun ds => wComp g tt te (wipeE ρ own) ds [] fun out => P (.list out)
section
variable {X : Cx} {elt tg iter : Expr} {ifs : List Expr} {scope : Scope} {own : List (Str × Nat)} {pos : Pos} {it : DI} {g : DG} {is : List Nat} {tt : DT} {te : DE}
theorem own_in {K : PySem.W.Frag} {w : Wd} {H0 H : Hp} {kp : List (V × D)} {O : List Addr} {σ : L2.St} {ρ : Env} (rep : Rep K w H0 kp O H σ ρ) {p : Addr} (hp : H p = none) (o : HO) (mo : Mut (some o)) :
    Rep K w H0 kp (p :: O) (upd H p o) σ ρ := by
  have hZ : p ∉ w.Z := fun z => w.dom _ rep.r p z hp
  have hO : p ∉ O := fun z => by have := rep.oS p z; rw [hp] at this; exact this
  have h0 : H0 p = none := by
    cases q : H0 p with
    | none => rfl
    | some u =>
      have := rep.s0 p u (off_some.mpr ⟨hZ, q⟩)
      rw [(off_some.mp this).2] at hp; cases hp
  have so : Same (Dw.off (w.Z ++ O) H) (Dw.off (w.Z ++ p :: O) (upd H p o)) := fun b x e => by
    rw [off_some] at e ⊢
    have hb : b ≠ p := ne_of_none e.2 hp
    refine ⟨fun z => ?_, by rw [upd_ne hb]; exact e.2⟩
    rcases List.mem_append.mp z with z | z
    · exact e.1 (List.mem_append_left _ z)
    · rcases List.mem_cons.mp z with z | z
      · exact hb z
      · exact e.1 (List.mem_append_right _ z)
  have st := Stp.laid (o := o) rep.r hp
  refine ⟨st.r, rep.s0.trans st.s, fun a ha => ?_, fun a ha => ?_, fun q hq => (rep.kp q hq).mono so, rep.len, fun i e h => ?_, rep.apart⟩
  · rcases List.mem_cons.mp ha with rfl | ha
    · exact ⟨h0, hZ⟩
    · exact rep.o0 a ha
  · by_cases e : a = p
    · subst e; rw [upd_same]; exact mo
    · rw [upd_ne e]; exact rep.oS a (by rcases List.mem_cons.mp ha with z | z; exact absurd z e; exact z)
  · obtain ⟨v, h1, h2⟩ := rep.var i e h
    refine ⟨v, h1, ?_⟩
    cases e with
    | d x => exact Rp.mono so h2
    | st => exact h2
    | own ds =>
      obtain ⟨a, vs, e1, e2, e3, e4⟩ := h2
      exact ⟨a, vs, e1, List.mem_cons_of_mem _ e2, by rw [upd_ne (show a ≠ p from fun z => hO (by rw [← z]; exact e2))]; exact e3, e4.mono so⟩
/-- the owned list at p is changed -/
theorem own_upd {K : PySem.W.Frag} {w : Wd} {H0 H : Hp} {kp : List (V × D)} {O : List Addr} {σ : L2.St} {ρ : Env} (rep : Rep K w H0 kp O H σ ρ) {p : Addr} (hp : p ∈ O) (o : HO) (mo : Mut (some o))
    (ho : ∀ (i : Nat) (ds : List D), ρ[i]? = some (some (.own ds)) → σ[i]? ≠ some (some (.ref p))) : Rep K w H0 kp O (upd H p o) σ ρ := by
  have hZ : p ∉ w.Z := (rep.o0 p hp).2
  have so : Same (Dw.off (w.Z ++ O) H) (Dw.off (w.Z ++ O) (upd H p o)) := same_off_upd (.inl (List.mem_append_right _ hp))
  have h0 : Same (Dw.off w.Z H0) (Dw.off w.Z (upd H p o)) := fun b x e => by
    have e1 := rep.s0 b x e
    rw [off_some] at e1 ⊢
    have hb : b ≠ p := by
      rintro rfl
      rw [off_some] at e
      rw [(rep.o0 b hp).1] at e; cases e.2
    exact ⟨e1.1, by rw [upd_ne hb]; exact e1.2⟩
  refine ⟨w.fr _ _ rep.r fun a ha => upd_ne fun e => hZ (e ▸ ha), h0, rep.o0, fun a ha => ?_, fun q hq => (rep.kp q hq).mono so, rep.len, fun i e h => ?_, rep.apart⟩
  · by_cases e : a = p
    · subst e; rw [upd_same]; exact mo
    · rw [upd_ne e]; exact rep.oS a ha
  · obtain ⟨v, h1, h2⟩ := rep.var i e h
    refine ⟨v, h1, ?_⟩
    cases e with
    | d x => exact Rp.mono so h2
    | st => exact h2
    | own ds =>
      obtain ⟨a, vs, e1, e2, e3, e4⟩ := h2
      have hne : a ≠ p := by
        rintro rfl
        exact ho i ds h (by rw [h1, e1])
      exact ⟨a, vs, e1, e2, by rw [upd_ne hne]; exact e3, e4.mono so⟩
theorem wComp_run {K : PySem.W.Frag} {Q : VK} {σ : L2.St} {J : It} {keep : List (V × D)} {ds : List D} {vs : List Nat} {D0 : Addr} {w : Wd} {H0 : Hp} {kp : List (V × D)} {O : List Addr} {ρ : Env} {P : List D → Prop}
    (his : ∀ i ∈ is, i ∈ vs) (hJ : ItIs K J keep ds) {H1 : Hp} (rep : Rep K w H0 kp O H1 σ ρ) (hk : ∀ p ∈ keep, Rp K (off (w.Z ++ O) H1) p.1 p.2) (hD : H1 D0 = none)
    (h : wComp g tt te (wipeE ρ vs) ds [] P) (fin : ∀ out xs H', P out → Stp w H1 H' → H' D0 = some (.lst xs) → Rps K (off (w.Z ++ D0 :: O) H') xs out → Q (.ref D0) H') :
    ∃ W : Nat → Nat → Hp → Prop, (∃ m, W 0 m (upd H1 D0 (.lst []))) ∧ ∀ i m H, W i m H →
      (J.stop i H ∧ Q (.ref D0) H) ∨ (J.go i H ∧ ∃ Nx : Hp → Prop, (∀ H', Nx H' → ∃ m', m' < m ∧ W (i + 1) m' H') ∧ ∀ x H', J.yld i H x H' → QRG K g is x (wipe σ vs) H' fun σ2 H2 => wipe σ2 vs = wipe σ vs ∧ QRT K tt σ2 H2 fun b H3 =>
        if b = true then QR K te σ2 H3 fun y H4 => ∃ acc, H4 D0 = some (.lst acc) ∧ acc.length < sizeLine ∧ Nx (upd H4 D0 (.lst (acc ++ [y]))) else Nx H3) := by
  have rep1 := (rep.keep hk).wipe vs
  have rep2 := own_in rep1 hD (.lst []) True.intro
  have hno : ∀ (j : Nat) (es : List D), (wipeE ρ vs)[j]? = some (some (.own es)) → (wipe σ vs)[j]? ≠ some (some (.ref D0)) := fun j es hj hq => by
    obtain ⟨hj1, hj2⟩ := wipeE_some hj
    obtain ⟨v', f1, f2⟩ := rep.var j _ hj1
    obtain ⟨a, vs', e3, e4, e5, e6⟩ := f2
    rw [wipe_out hj2] at hq
    rw [hq] at f1; cases f1; cases e3
    rw [hD] at e5; cases e5
  refine ⟨fun i m H => m = ds.length - i ∧ i ≤ ds.length ∧ ∃ acc out, Stp w H1 H ∧ Rep K w H0 (keep ++ kp) (D0 :: O) H (wipe σ vs) (wipeE ρ vs) ∧ H D0 = some (.lst acc) ∧ Rps K (off (w.Z ++ D0 :: O) H) acc out ∧ wComp g tt te (wipeE ρ vs) (ds.drop i) out P,
    ⟨ds.length, by simp, Nat.zero_le _, [], [], Stp.laid rep.r hD, rep2, upd_same, .nil, by simpa using h⟩, ?_⟩
  rintro i m H ⟨rfl, hi, acc, out, st, repi, eD, racc, hw⟩
  obtain ⟨hgo, hstop⟩ := hJ w (D0 :: O) H repi.wok (fun p hp => repi.kp p (List.mem_append_left _ hp))
  by_cases hlt : i < ds.length
  · right
    obtain ⟨hg1, hg2⟩ := hgo i ds[i] (List.getElem?_eq_getElem hlt)
    rw [List.drop_eq_getElem_cons hlt] at hw
    refine ⟨hg1, fun H' => ∃ acc out, Stp w H1 H' ∧ Rep K w H0 (keep ++ kp) (D0 :: O) H' (wipe σ vs) (wipeE ρ vs) ∧ H' D0 = some (.lst acc) ∧ Rps K (off (w.Z ++ D0 :: O) H') acc out ∧ wComp g tt te (wipeE ρ vs) (ds.drop (i + 1)) out P,
      fun H' ⟨acc, out, a1, a2, a3, a4, a5⟩ => ⟨ds.length - (i + 1), by omega, rfl, hlt, acc, out, a1, a2, a3, a4, a5⟩, fun x H' y => ?_⟩
    obtain ⟨s1, rx⟩ := hg2 x H' y
    have repi1 := repi.stp s1
    refine ⟨w, H0, keep ++ kp, D0 :: O, wipeE ρ vs, ds[i], _, repi1, rx, hw, fun ρ2 σ2 H2 p2 s2 rep2 f2 l2 => ⟨?_, ?_⟩⟩
    · have e : L2.wipe σ2 vs = L2.wipe (L2.wipe σ vs) vs := wipe_ext l2 fun j hj => f2 j fun z => hj (his j z)
      rw [e]
      exact wipe_ext (wipe_length _ _) fun j hj => wipe_out hj
    · have st2 := (st.trans s1).trans s2
      have eD2 : H2 D0 = some (.lst acc) := (off_some.mp ((s1.trans s2).s D0 _ (off_some.mpr ⟨(repi.o0 D0 List.mem_cons_self).2, eD⟩))).2
      have racc2 := racc.mono (repi.off (s1.trans s2))
      have back : ∀ H3, Stp w H2 H3 → Rep K w H0 (keep ++ kp) (D0 :: O) H3 (wipe σ vs) (wipeE ρ vs) := fun H3 s3 => repi.stp ((s1.trans s2).trans s3)
      refine rep2.goT p2 fun b H3 p3 s3 rep3 => ?_
      cases b with
      | false =>
        simp only [Bool.false_eq_true, if_false] at p3 ⊢
        exact ⟨acc, out, st2.trans s3, back H3 s3, (off_some.mp (s3.s D0 _ (off_some.mpr ⟨(repi.o0 D0 List.mem_cons_self).2, eD2⟩))).2, racc2.mono (rep2.off s3), p3⟩
      | true =>
        simp only [if_true] at p3 ⊢
        refine rep3.go p3 fun dy yv H4 p4 s4 rep4 ry => ?_
        have s34 := s3.trans s4
        have eD4 : H4 D0 = some (.lst acc) := (off_some.mp (s34.s D0 _ (off_some.mpr ⟨(repi.o0 D0 List.mem_cons_self).2, eD2⟩))).2
        have racc4 := racc2.mono (rep2.off s34)
        refine ⟨acc, eD4, by rw [racc.length]; exact p4.1, acc ++ [yv], out ++ [dy], ?_, ?_, upd_same, ?_, p4.2⟩
        · have a1 := st2.trans s34
          have a2 := own_upd (back H4 s34) (p := D0) List.mem_cons_self (.lst (acc ++ [yv])) True.intro hno
          refine ⟨fun b o e => ?_, a2.r⟩
          have e2 := a1.s b o e
          rw [off_some] at e e2 ⊢
          refine ⟨e2.1, ?_⟩
          rw [upd_ne (ne_of_none e.2 hD)]; exact e2.2
        · exact own_upd (back H4 s34) (p := D0) List.mem_cons_self (.lst (acc ++ [yv])) True.intro hno
        · exact (racc4.append (Rps.one ry)).mono (same_off_upd (.inl (by simp)))
  · left
    have e : i = ds.length := by omega
    subst e
    rw [List.drop_length] at hw
    exact ⟨hstop, fin out acc H hw st eD racc⟩
theorem lst_of {K : PySem.W.Frag} {w : Wd} {O : List Addr} {H : Hp} {p : Addr} {xs : List V} {ds : List D} (hp : p ∉ w.Z ++ O) (e : H p = some (.lst xs)) (r : Rps K (off (w.Z ++ p :: O) H) xs ds) : Rp K (off (w.Z ++ O) H) (.ref p) (.list ds) :=
  .lst (off_some.mpr ⟨hp, e⟩) (r.mono (off_same fun z hz => by
    rcases List.mem_append.mp hz with hz | hz
    · exact List.mem_append_left _ hz
    · exact List.mem_append_right _ (List.mem_cons_of_mem _ hz)))
theorem qe_lc (hc : X.calm = true) (hN : X.N.Nodup) (hi : QI X tg iter it) (ok : BlkOk X.N X.env.scope scope own) (his : is.all (fun i => (own.map (·.2)).contains i) = true)
    (hg : ∀ (s : Shared) (H : Hp) (C : Addr) (cl : List (Str × Addr)) (fp : List Addr), QG (X.blk s H scope (compEnvC scope cl C X.env) fp) tg g is) (ht : ∀ (s : Shared) (H : Hp) (C : Addr) (cl : List (Str × Addr)) (fp : List Addr), QTs (X.blk s H scope (compEnvC scope cl C X.env) fp) ifs tt)
    (he : ∀ (s : Shared) (H : Hp) (C : Addr) (cl : List (Str × Addr)) (fp : List Addr), QE (X.blk s H scope (compEnvC scope cl C X.env) fp) elt te) (hs : ∀ x, foldedSetIterable iter X.env x = pure x := by intro _; rfl) :
    QE X (.ListComp elt [⟨tg, iter, ifs, 0⟩] scope pos) (dComp it g tt te (own.map (·.2))) :=
  ⟨pe_imp (pe_lc hc hN hi.pi ok (fun s H C cl fp => (hg s H C cl fp).pg) (fun s H C cl fp => (ht s H C cl fp).pts) (fun s H C cl fp => (he s H C cl fp).pe) hs)
    fun σ H Q ⟨w, H0, kp, O, ρ, P, rep, h, q⟩ => ⟨w, H0, kp, O, ρ, _, rep, h, fun ds J keep H' p st hk hJ D0 hD =>
      wComp_run (fun i hi => by simpa using List.all_eq_true.mp his i hi) hJ (rep.stp st) hk hD p fun out xs H2 p2 s2 e2 r2 => q _ _ _ p2 (st.trans s2) (lst_of ((rep.stp st).wok.fresh hD) e2 r2)⟩⟩
end
end Dw

namespace Dw
open PySem PySem.Spec PyProof.Rows L2

/-! ### defs: promises about data -/
abbrev Sd := List Ent → (D → Prop) → Prop
inductive EntsR (K : PySem.W.Frag) (w : Wd) (O : List Addr) (H : Hp) : List V → List Ent → Prop
  | nil : EntsR K w O H [] []
  | cons {v : V} {vs : List V} {e : Ent} {es : List Ent} : EntR K w O H v e → EntsR K w O H vs es → EntsR K w O H (v :: vs) (e :: es)
theorem EntsR.length {K : PySem.W.Frag} {w : Wd} {O : List Addr} {H : Hp} {es : List Ent} : ∀ {vs : List V}, EntsR K w O H vs es → vs.length = es.length := by
  induction es with
  | nil => intro vs h; cases h; rfl
  | cons d ds ih => intro vs h; cases h with | cons a b => simp [ih b]
theorem EntsR.get {K : PySem.W.Frag} {w : Wd} {O : List Addr} {H : Hp} {es : List Ent} : ∀ {vs : List V} {i : Nat} {e : Ent}, EntsR K w O H vs es → es[i]? = some e → ∃ v, vs[i]? = some v ∧ EntR K w O H v e := by
  induction es with
  | nil => intro vs i e h q; simp at q
  | cons d ds ih =>
    intro vs i e h q
    cases h with
    | @cons v _ _ _ a b =>
      cases i with
      | zero => simp at q; subst q; exact ⟨v, by simp, a⟩
      | succ i => obtain ⟨u, e1, r⟩ := ih b (by simpa using q); exact ⟨u, by simpa using e1, r⟩
def spD (K : PySem.W.Frag) (n : Nat) (wp : Sd) : Sp := fun vs H Q _ => vs.length = n ∧ ∃ (w : Wd) (ents : List Ent) (P : D → Prop), w.R H ∧ EntsR K w [] H vs ents ∧ wp ents P ∧
  ∀ d v H', P d → Stp w H H' → Rp K (off w.Z H') v d → Q v H'
/-- the world of a callee: all that must stand -/
def Wd.inner (w : Wd) (O : List Addr) (H1 : Hp) : Wd where
  Z := w.Z ++ O
  st := w.st
  R := fun H => w.R H ∧ ∀ a ∈ O, H a = H1 a ∧ H1 a ≠ none
  fr := fun H H' h e => ⟨w.fr H H' h.1 fun a ha => e a (List.mem_append_left _ ha), fun a ha => ⟨(e a (List.mem_append_right _ ha)).trans (h.2 a ha).1, (h.2 a ha).2⟩⟩
  dom := fun H h a ha => (List.mem_append.mp ha).elim (w.dom H h.1 a) fun q => by rw [(h.2 a q).1]; exact (h.2 a q).2
theorem Wd.inner_r {w : Wd} {O : List Addr} {H : Hp} (k : Wok w O H) : (w.inner O H).R H := ⟨k.r, fun a ha => ⟨rfl, (k.o a ha).2⟩⟩
theorem Wd.inner_stp {w : Wd} {O : List Addr} {H H' : Hp} (k : Wok w O H) (s : Stp (w.inner O H) H H') : Stp w H H' :=
  ⟨fun b o e => by
    by_cases hb : b ∈ O
    · rw [off_some] at e ⊢
      exact ⟨e.1, by rw [(s.r.2 b hb).1]; exact e.2⟩
    · have e1 : off (w.inner O H).Z H b = some o := by
        rw [off_some] at e ⊢
        exact ⟨fun z => (List.mem_append.mp z).elim e.1 hb, e.2⟩
      have e2 := s.s b o e1
      rw [off_some] at e e2 ⊢
      exact ⟨e.1, e2.2⟩, s.r.1⟩

theorem Wd.inner_st {w : Wd} {O : List Addr} {H : Hp} (k : Wok w O H) (s : StW w) : StW (w.inner O H) := ⟨fun H' h => by
  obtain ⟨c, i, ns, ok, m1, m2, f1, f2⟩ := s.get H' h.1
  have n1 : ∀ a ∈ O, a ≠ w.st := fun a ha e => (k.o a ha).1 (e ▸ m1)
  have n2 : ∀ a ∈ O, a ≠ c := fun a ha e => (k.o a ha).1 (e ▸ m2)
  exact ⟨c, i, ns, ok, List.mem_append_left _ m1, List.mem_append_left _ m2, fun i' h0 => ⟨f1 i' h0, fun a ha => by rw [show (w.inner O H).st = w.st from rfl, upd_ne (n1 a ha)]; exact h.2 a ha⟩,
    fun ns' a1 a2 a3 => ⟨f2 ns' a1 a2 a3, fun a ha => by rw [upd_ne (n2 a ha)]; exact h.2 a ha⟩⟩⟩

/-! ### argument lists of calls of defs -/
abbrev DB := Env → (List Ent → Prop) → Prop
def QRB (K : PySem.W.Frag) (n : Nat) (f : DB) : TA := fun σ H Q => ∃ (w : Wd) (H0 : Hp) (kp : List (V × D)) (O : List Addr) (ρ : Env) (P : List Ent → Prop), Rep K w H0 kp O H σ ρ ∧ f ρ P ∧
  ∀ es vs H', P es → es.length = n → Stp w H H' → EntsR K (w.inner O H') [] H' vs es → Q vs H'
structure QB (X : Cx) (es : List Expr) (f : DB) : Prop where
  pa : PA X es (QRB X.K es.length f)
def bNil : DB := fun _ P => P []
def bCons (f : DE) (g : DB) : DB := fun ρ P => f ρ fun x => g ρ fun xs => P (.d x :: xs)
def bSt (i : Nat) (g : DB) : DB := fun ρ P => ρ[i]? = some (some .st) ∧ g ρ fun xs => P (.st :: xs)
section
variable {X : Cx} {e : Expr} {es : List Expr} {fa : DE} {fb : DB} {pos : Pos}
theorem qb_nil : QB X [] bNil := ⟨pa_imp pa_nil fun σ H Q ⟨w, H0, kp, O, ρ, P, rep, h, q⟩ => q _ _ _ h rfl (Stp.refl rep.r) .nil⟩
theorem Rep.goB {K : PySem.W.Frag} {w : Wd} {H0 H : Hp} {kp : List (V × D)} {O : List Addr} {σ : L2.St} {ρ : Env} {f : DB} {n : Nat} {P : List Ent → Prop} {Q : List V → Hp → Prop} (rep : Rep K w H0 kp O H σ ρ) (h : f ρ P)
    (k : ∀ es vs H', P es → es.length = n → Stp w H H' → Rep K w H0 kp O H' σ ρ → EntsR K (w.inner O H') [] H' vs es → Q vs H') : QRB K n f σ H Q :=
  ⟨w, H0, kp, O, ρ, P, rep, h, fun d v H' p l s r => k d v H' p l s (rep.stp s) r⟩
theorem qb_cons (ha : QE X e fa) (hr : QB X es fb) (hs : starEach (e :: es) X.env = (false, eval e X.env) :: starEach es X.env := by rfl) : QB X (e :: es) (bCons fa fb) :=
  ⟨pa_imp (pa_cons ha.pe hr.pa hs) fun σ H Q ⟨w, H0, kp, O, ρ, P, rep, h, q⟩ => rep.go h fun d v H1 h1 s1 rep1 r1 => rep1.goB h1 fun ds vs H2 h2 l2 s2 rep2 r2 =>
    q _ _ _ h2 (by simp [l2]) (s1.trans s2) (.cons (by
      show Rp X.K (off ((w.Z ++ O) ++ []) H2) v d
      rw [List.append_nil]
      exact r1.mono (rep1.off s2)) r2)⟩
theorem qb_st (i : Nat) {x : Str} {p : Pos} (hr : QB X es fb) (hN : X.N[i]? = some x := by rfl) (hv : Vis X.env.scope x := by first | exact Or.inl rfl | exact Or.inr (Or.inl rfl) | exact Or.inr (Or.inr rfl)) (hd : (x == ("__debug__" : Str)) = false := by decide)
    (hcd : (x == ("__classdict__" : Str)) = false := by decide) (hs : starEach (.Name x p :: es) X.env = (false, eval (.Name x p) X.env) :: starEach es X.env := by rfl) : QB X (.Name x p :: es) (bSt i fb) :=
  ⟨pa_imp (pa_cons (pe_var hN hv hd hcd) hr.pa hs) fun σ H Q ⟨w, H0, kp, O, ρ, P, rep, ⟨h0, h⟩, q⟩ => by
    obtain ⟨v, e, r⟩ := rep.var i _ h0
    exact ⟨v, e, rep.goB h fun ds vs H2 h2 l2 s2 rep2 r2 => q _ _ _ h2 (by simp [l2]) s2 (.cons ⟨r.1, Wd.inner_st rep2.wok r.2⟩ r2)⟩⟩
def dCall (wp : Sd) (f : DB) : DE := fun ρ P => f ρ fun es => wp es P
theorem qe_call {CX : CXT} {k : Nat} {f : Addr} {fd : FuncData} {ps : List Str} {wp : Sd} {E : XK} {x : Str} {p : Pos} (F : FnOk X.prog X.w X.K X.mg X.base CX k f fd ps (spD X.K (e :: es).length wp)) (hr : Room k X.A) (hg : Gl X x) (hm : X.mg x = some (.ref f)) (hk : PySem.W.keepIn X.K (.ref f) = true)
    (hb : Binds X.K fd ps []) (hx : Passes CX X E) (ha : QB X (e :: es) fb) (hdb : (x == ("__debug__" : Str)) = false := by decide)
    (he : starEach (e :: es) X.env = (false, eval e X.env) :: starEach es X.env := by rfl) (hpl : (backTo pos (starEach es X.env)).any (·.1) = false := by rfl) :
    QE X (.Call (.Name x p) (e :: es) [] pos) (dCall wp fb) :=
  ⟨pe_imp (pe_call F hr hg hm hk hb .nil hx ha.pa hdb he hpl) fun σ H Q ⟨w, H0, kp, O, ρ, P, rep, h, q⟩ => rep.goB h fun ds vs H2 h2 l2 s2 rep2 r2 => by
    rw [List.append_nil]
    exact ⟨by rw [r2.length, l2], w.inner O H2, ds, P, Wd.inner_r rep2.wok, r2, h2, fun d v H' p s r => q d v H' p (s2.trans (Wd.inner_stp rep2.wok s)) r⟩⟩
end
/-! ### statements -/
structure DEnds where
  nx : Env → Prop
  rt : D → Prop
  bk : Env → Prop := fun _ => False
  ct : Env → Prop := fun _ => False
abbrev DS := DEnds → Env → Prop
def RepX (K : PySem.W.Frag) (w : Wd) (H0 : Hp) (kp : List (V × D)) (H : Hp) (σ : L2.St) (ρ : Env) : Prop := ∃ O, Rep K w H0 kp O H σ ρ
def QRS (K : PySem.W.Frag) (t : DS) : TS := fun D σ H => ∃ (w : Wd) (H0 : Hp) (kp : List (V × Dw.D)) (ρ : Env) (E : DEnds), RepX K w H0 kp H σ ρ ∧ t E ρ ∧
  (∀ ρ' σ' H', E.nx ρ' → RepX K w H0 kp H' σ' ρ' → D.nx σ' H') ∧ (∀ ρ' σ' H', E.bk ρ' → RepX K w H0 kp H' σ' ρ' → D.bk σ' H') ∧ (∀ ρ' σ' H', E.ct ρ' → RepX K w H0 kp H' σ' ρ' → D.ct σ' H') ∧
  (∀ d v H', E.rt d → Same (off w.Z H0) (off w.Z H') → w.R H' → Rp K (off w.Z H') v d → D.rt v H')
structure QS (X : Cx) (st : Stmt) (t : DS) : Prop where
  ps : PS X st (QRS X.K t)
structure QSs (X : Cx) (st : List Stmt) (t : DS) : Prop where
  pss : PSs X st (QRS X.K t)
section
variable {X : Cx} {st : Stmt} {rest : List Stmt} {t u : DS} {e c : Expr} {fa fb : DE} {tc : DT} {pos : Pos}
theorem ps_imp {t t' : TS} (h : PS X st t) (i : ∀ D σ H, t' D σ H → t D σ H) : PS X st t' := ⟨fun pins s σ H D I q => h.run pins s σ H D I (i _ _ _ q)⟩
theorem pss_imp {t t' : TS} (h : PSs X rest t) (i : ∀ D σ H, t' D σ H → t D σ H) : PSs X rest t' := ⟨fun pins s σ H D I q => h.run pins s σ H D I (i _ _ _ q)⟩
def dNext : DS := fun E ρ => E.nx ρ
def dSeq (t u : DS) : DS := fun E ρ => t { E with nx := u E } ρ
theorem qss_nil : QSs X [] dNext := ⟨pss_imp pss_nil fun D σ H ⟨w, H0, kp, ρ, E, rep, h, q1, q2, q3, q4⟩ => q1 _ _ _ h rep⟩
theorem qss_cons (h1 : QS X st t) (h2 : QSs X rest u) : QSs X (st :: rest) (dSeq t u) :=
  ⟨pss_imp (pss_cons h1.ps h2.pss) fun D σ H ⟨w, H0, kp, ρ, E, rep, h, q1, q2, q3, q4⟩ =>
    ⟨w, H0, kp, ρ, _, rep, h, fun ρ' σ' H' p r => ⟨w, H0, kp, ρ', E, r, p, q1, q2, q3, q4⟩, q2, q3, q4⟩⟩
theorem qss_one (h1 : QS X st t) : QSs X [st] t := ⟨pss_one h1.ps⟩
theorem qs_pass : QS X (.Pass pos) dNext := ⟨ps_imp ps_pass fun D σ H ⟨w, H0, kp, ρ, E, rep, h, q1, q2, q3, q4⟩ => q1 _ _ _ h rep⟩
def dBreak : DS := fun E ρ => E.bk ρ
def dCont : DS := fun E ρ => E.ct ρ
theorem qs_break : QS X (.Break pos) dBreak := ⟨ps_imp ps_break fun D σ H ⟨w, H0, kp, ρ, E, rep, h, q1, q2, q3, q4⟩ => q2 _ _ _ h rep⟩
theorem qs_cont : QS X (.Continue pos) dCont := ⟨ps_imp ps_continue fun D σ H ⟨w, H0, kp, ρ, E, rep, h, q1, q2, q3, q4⟩ => q3 _ _ _ h rep⟩
/-- the owned lists are given up at a return -/
def dRet (f : DE) : DS := fun E ρ => f (peek ρ) E.rt
theorem qs_ret (he : QE X e fa) : QS X (.Return (some e) pos) (dRet fa) :=
  ⟨ps_imp (ps_ret he.pe) fun D σ H ⟨w, H0, kp, ρ, E, ⟨O, rep⟩, h, q1, q2, q3, q4⟩ => by
    have rp := rep.peek
    refine rp.go h fun d v H' p st rep' r => ?_
    rw [List.append_nil] at r
    exact q4 d v H' p (rep.s0.trans st.s) st.r r⟩
def dRetN : DS := fun E _ => E.rt .none
theorem qs_retN : QS X (.Return none pos) dRetN := ⟨ps_imp ps_retN fun D σ H ⟨w, H0, kp, ρ, E, ⟨O, rep⟩, h, q1, q2, q3, q4⟩ => q4 .none .non H h rep.s0 rep.r .non⟩
/-- an expression whose value is dropped -/
def dDrop (f : DE) : DS := fun E ρ => f (peek ρ) fun _ => E.nx ρ
theorem qs_expr (he : QE X e fa) (hs : swapsWith e none pos.line X.env = pure false := by rfl) : QS X (.Expr e pos) (dDrop fa) :=
  ⟨ps_imp (ps_expr he.pe hs) fun D σ H ⟨w, H0, kp, ρ, E, ⟨O, rep⟩, h, q1, q2, q3, q4⟩ => rep.peek.go h fun d v H' p st rep' r => q1 _ _ _ p ⟨O, rep.stp st⟩⟩
/-- a test: the owned lists may be looked at -/
def dIfS (c : DT) (t u : DS) : DS := fun E ρ => c (peek ρ) fun b => if b = true then t E ρ else u E ρ
theorem qs_if {a b : List Stmt} (hc : QT X c tc) (ha : QSs X a t) (hb : QSs X b u) : QS X (.If c a b pos) (dIfS tc t u) :=
  ⟨ps_imp (ps_if hc.pt ha.pss hb.pss) fun D σ H ⟨w, H0, kp, ρ, E, ⟨O, rep⟩, h, q1, q2, q3, q4⟩ => rep.peek.goT h fun k H' p st rep' => by
    cases k with
    | true => simp only [if_true] at p ⊢; exact ⟨w, H0, kp, ρ, E, ⟨O, rep.stp st⟩, p, q1, q2, q3, q4⟩
    | false => simp only [Bool.false_eq_true, if_false] at p ⊢; exact ⟨w, H0, kp, ρ, E, ⟨O, rep.stp st⟩, p, q1, q2, q3, q4⟩⟩
/-- name = value -/
def dSet (i : Nat) (f : DE) : DS := fun E ρ => f ρ fun x => E.nx (ρ.set i (some (.d x)))
theorem qs_set {i : Nat} {x : Str} {pos' : Pos} (hN : X.N.Nodup) (hi : X.N[i]? = some x) (hx : Loc X.env.scope x) (he : QE X e fa) (hs : swapsWith e (some (.Name x pos')) pos.line X.env = pure false := by rfl) (hf : X.fn x = true ∨ X.env.scope.names.lookup x = some .local := by first | exact .inl rfl | exact .inr rfl | assumption) :
    QS X (.Assign [.Name x pos'] e pos) (dSet i fa) :=
  ⟨ps_imp (ps_set hN hi hx he.pe hs hf) fun D σ H ⟨w, H0, kp, ρ, E, ⟨O, rep⟩, h, q1, q2, q3, q4⟩ => rep.go h fun d v H' p st rep' r => q1 _ _ _ p ⟨O, rep'.setD i r⟩⟩
def scalD : D → Bool
  | .none => true
  | .bool _ => true
  | .int _ => true
  | .str _ => true
  | _ => false
theorem Rp.scal {K : PySem.W.Frag} {H H' : Hp} {v : V} {d : D} (h : Rp K H v d) (s : scalD d = true) : Rp K H' v d := by
  cases h <;> first | (simp [scalD] at s; done) | constructor
/-- .. a number, text or truth, read off the owned lists -/
def dSetW (i : Nat) (f : DE) : DS := fun E ρ => f (peek ρ) fun x => scalD x = true ∧ E.nx (ρ.set i (some (.d x)))
theorem qs_setW {i : Nat} {x : Str} {pos' : Pos} (hN : X.N.Nodup) (hi : X.N[i]? = some x) (hx : Loc X.env.scope x) (he : QE X e fa) (hs : swapsWith e (some (.Name x pos')) pos.line X.env = pure false := by rfl) (hf : X.fn x = true ∨ X.env.scope.names.lookup x = some .local := by first | exact .inl rfl | exact .inr rfl | assumption) :
    QS X (.Assign [.Name x pos'] e pos) (dSetW i fa) :=
  ⟨ps_imp (ps_set hN hi hx he.pe hs hf) fun D σ H ⟨w, H0, kp, ρ, E, ⟨O, rep⟩, h, q1, q2, q3, q4⟩ => rep.peek.go h fun d v H' p st rep' r => q1 _ _ _ p.2 ⟨O, (rep.stp st).setD i (r.scal p.1)⟩⟩
/-- target = value -/
def dAsg (f : DE) (g : DG) : DS := fun E ρ => f ρ fun x => g x ρ E.nx
theorem qs_asg {tg : Expr} {g : DG} {is : List Nat} (he : QE X e fa) (hg : QG X tg g is) (hs : swapsWithSole [tg] e pos.line X.env = pure false := by rfl) (hw : swappedStores [tg] e X.env = pure none := by rfl)
    (h1 : (assignEach [tg] X.env).map (·.2) = [assign tg X.env] := by rfl) : QS X (.Assign [tg] e pos) (dAsg fa g) :=
  ⟨ps_imp (ps_asg he.pe hg.pg hs hw h1) fun D σ H ⟨w, H0, kp, ρ, E, ⟨O, rep⟩, h, q1, q2, q3, q4⟩ => rep.go h fun d v H' p st rep' r =>
    ⟨w, H0, kp, O, ρ, d, _, rep', r, p, fun ρ' σ' H2 p2 s2 rep2 _ _ => q1 _ _ _ p2 ⟨O, rep2⟩⟩⟩
/-- a, b = x, y with plain local names -/
def dPar (i j : Nat) (f : DA) : DS := fun E ρ => f ρ fun xs => match xs with
  | [x, y] => E.nx ((ρ.set i (some (.d x))).set j (some (.d y)))
  | _ => False
theorem qs_par {i j : Nat} {x y : Str} {a b : Expr} {fas : DA} {px py pt : Pos} {kt k2 pt2} (hc : X.calm = true) (hN : X.N.Nodup) (hi : X.N[i]? = some x) (hj : X.N[j]? = some y) (hij : i ≠ j)
    (hx : X.env.scope.names.lookup x = some .local) (hy : X.env.scope.names.lookup y = some .local) (ha : QA X [a, b] fas)
    (hw : swappedStores [.Tuple [.Name x px, .Name y py] kt pt] (.Tuple [a, b] k2 pt2) X.env = pure (some [x, y]))
    (hs : swapsWithSole [.Tuple [.Name x px, .Name y py] kt pt] (.Tuple [a, b] k2 pt2) pos.line X.env = pure false := by rfl) :
    QS X (.Assign [.Tuple [.Name x px, .Name y py] kt pt] (.Tuple [a, b] k2 pt2) pos) (dPar i j fas) :=
  ⟨ps_imp (ps_par hc hN hi hj hij hx hy ha.pa hw hs) fun D σ H ⟨w, H0, kp, ρ, E, ⟨O, rep⟩, h, q1, q2, q3, q4⟩ => rep.goA h fun ds vs H' p st rep' r => by
    split at p
    · obtain ⟨v, u, rfl, r1, r2⟩ := rps_two r
      exact ⟨v, u, rfl, q1 _ _ _ p ⟨O, (rep'.setD i r1).setD j r2⟩⟩
    · exact p.elim⟩
/-- while -/
def dWhile (c : DT) (body : DS) : DS := fun E ρ => ∃ W : Nat → Env → Prop, (∃ m, W m ρ) ∧ ∀ m ρ, W m ρ →
  c (peek ρ) fun b => if b = true then body { E with nx := fun ρ' => ∃ m', m' < m ∧ W m' ρ', ct := fun ρ' => ∃ m', m' < m ∧ W m' ρ', bk := E.nx } ρ else E.nx ρ
theorem qs_while {body : List Stmt} (hp : PassesOwn (model X.prog X.w) X.A X.env X.xe) (hc : QT X c tc) (hb : QSs X body t) : QS X (.While c body [] pos) (dWhile tc t) :=
  ⟨ps_imp (ps_while hp hc.pt hb.pss) fun D σ H ⟨w, H0, kp, ρ, E, rep, ⟨W, ⟨m0, w0⟩, turn⟩, q1, q2, q3, q4⟩ =>
    ⟨fun m σ H => ∃ ρ, RepX X.K w H0 kp H σ ρ ∧ W m ρ, ⟨m0, ρ, rep, w0⟩, fun m σ H ⟨ρ, ⟨O, rep⟩, wm⟩ => rep.peek.goT (turn m ρ wm) fun k H' p st rep' => by
      cases k with
      | true =>
        simp only [if_true] at p ⊢
        refine ⟨fun σ' H' => ∃ ρ' m', m' < m ∧ RepX X.K w H0 kp H' σ' ρ' ∧ W m' ρ', fun σ' H' ⟨ρ', m', a, b, c⟩ => ⟨m', a, ρ', b, c⟩, w, H0, kp, ρ, _, ⟨O, rep.stp st⟩, p, ?_, ?_, ?_, q4⟩
        · exact fun ρ' σ' H' ⟨m', a, b⟩ r => ⟨ρ', m', a, r, b⟩
        · exact fun ρ' σ' H' a r => q1 _ _ _ a r
        · exact fun ρ' σ' H' ⟨m', a, b⟩ r => ⟨ρ', m', a, r, b⟩
      | false => simp only [Bool.false_eq_true, if_false] at p ⊢; exact q1 _ _ _ p ⟨O, rep.stp st⟩⟩⟩
/-- for -/
def wFor (g : DG) (body : DS) (E : DEnds) : List D → Env → Prop
  | [], ρ => E.nx ρ
  | d :: ds, ρ => g d ρ fun ρ2 => body { E with nx := wFor g body E ds, ct := wFor g body E ds, bk := E.nx } ρ2
def dFor (it : DI) (g : DG) (body : DS) : DS := fun E ρ => it ρ fun ds => wFor g body E ds ρ
theorem qs_for {tg iter : Expr} {body : List Stmt} {it : DI} {g : DG} {is : List Nat} (hp : PassesOwn (model X.prog X.w) X.A X.env X.xe) (hc : X.calm = true) (hi : QI X tg iter it) (hg : QG X tg g is) (hb : QSs X body t)
    (hs : ∀ x, foldedSetIterable iter X.env x = pure x := by intro _; rfl) : QS X (.For tg iter body [] pos) (dFor it g t) :=
  ⟨ps_imp (ps_for hp hc hi.pi hg.pg hb.pss hs) fun D σ H ⟨w, H0, kp, ρ, E, ⟨O, rep⟩, h, q1, q2, q3, q4⟩ => ⟨w, H0, kp, O, ρ, _, rep, h, fun ds J keep H1 p st hk hJ => by
    have drop : ∀ {H' σ' ρ'}, RepX X.K w H0 (keep ++ kp) H' σ' ρ' → RepX X.K w H0 kp H' σ' ρ' := fun ⟨O', r⟩ => ⟨O', r.r, r.s0, r.o0, r.oS, fun q hq => r.kp q (List.mem_append_right _ hq), r.len, r.var, r.apart⟩
    refine ⟨fun i m σ H => m = ds.length - i ∧ i ≤ ds.length ∧ ∃ ρ, RepX X.K w H0 (keep ++ kp) H σ ρ ∧ wFor g t E (ds.drop i) ρ, ⟨ds.length, by simp, Nat.zero_le _, ρ, ⟨O, (rep.stp st).keep hk⟩, by simpa using p⟩, ?_⟩
    rintro i m σ H ⟨rfl, hi, ρ, ⟨O, rep⟩, hw⟩
    obtain ⟨hgo, hstop⟩ := hJ w O H rep.wok (fun p hp => rep.kp p (List.mem_append_left _ hp))
    by_cases hlt : i < ds.length
    · right
      obtain ⟨hg1, hg2⟩ := hgo i ds[i] (List.getElem?_eq_getElem hlt)
      rw [List.drop_eq_getElem_cons hlt] at hw
      refine ⟨hg1, fun σ' H' => ∃ ρ', RepX X.K w H0 (keep ++ kp) H' σ' ρ' ∧ wFor g t E (ds.drop (i + 1)) ρ', fun σ' H' ⟨ρ', a, b⟩ => ⟨ds.length - (i + 1), by omega, rfl, hlt, ρ', a, b⟩, fun x H' y => ?_⟩
      obtain ⟨s1, rx⟩ := hg2 x H' y
      refine ⟨w, H0, keep ++ kp, O, ρ, ds[i], _, rep.stp s1, rx, hw, fun ρ2 σ2 H2 p2 s2 rep2 _ _ => ?_⟩
      exact ⟨w, H0, keep ++ kp, ρ2, _, ⟨O, rep2⟩, p2, fun ρ' σ' H' a r => ⟨ρ', r, a⟩, fun ρ' σ' H' a r => q1 _ _ _ a (drop r), fun ρ' σ' H' a r => ⟨ρ', r, a⟩, q4⟩
    · left
      have e : i = ds.length := by omega
      subst e
      rw [List.drop_length] at hw
      exact ⟨hstop, q1 _ _ _ hw (drop ⟨O, rep⟩)⟩⟩⟩
end
/-! ### the def as a whole -/
def startE (n : Nat) (es : List Ent) : Env := es.map some ++ List.replicate (n - es.length) none
def wpOf (n : Nat) (t : DS) : Sd := fun es P => t { nx := fun _ => P .none, rt := P } (startE n es)
theorem start_rep {K : PySem.W.Frag} {w : Wd} {H : Hp} {N : List Str} {vs : List V} {es : List Ent} (r : w.R H) (h : EntsR K w [] H vs es) (hl : vs.length ≤ N.length) : Rep K w H [] [] H (L2.start N vs) (startE N.length es) := by
  have el := h.length
  refine ⟨r, fun _ _ e => e, fun a ha => by simp at ha, fun a ha => by simp at ha, fun p hp => by simp at hp, ?_, fun i e q => ?_, fun i j ds es' v _ q => ?_⟩
  · simp [L2.start, startE, el]
  · have hi : i < es.length := by
      unfold startE at q
      by_cases hi : i < es.length
      · exact hi
      · rw [List.getElem?_append_right (by simpa using hi), List.getElem?_replicate] at q
        split at q <;> cases q
    unfold startE at q
    rw [List.getElem?_append_left (by simpa using hi), List.getElem?_map] at q
    have q' : es[i]? = some e := by
      cases z : es[i]? with
      | none => rw [z] at q; simp at q
      | some y => rw [z] at q; simp at q; rw [q]
    obtain ⟨v, e1, e2⟩ := h.get q'
    refine ⟨v, ?_, e2⟩
    unfold L2.start
    rw [List.getElem?_append_left (by simp [el, hi]), List.getElem?_map, e1]; rfl
  · exfalso
    have hi : i < es.length := by
      unfold startE at q
      by_cases hi : i < es.length
      · exact hi
      · rw [List.getElem?_append_right (by simpa using hi), List.getElem?_replicate] at q
        split at q <;> cases q
    unfold startE at q
    rw [List.getElem?_append_left (by simpa using hi), List.getElem?_map] at q
    have q' : es[i]? = some (.own ds) := by
      cases z : es[i]? with
      | none => rw [z] at q; simp at q
      | some y => rw [z] at q; simp at q; rw [q]
    obtain ⟨v, e1, p, vs', e3, e4, _⟩ := h.get q'
    simp at e4
section
variable {P : Program} {w : World} {K : PySem.W.Frag} {mg : Str → Option Value} {base : Heap}
/-- a def by its body -/
theorem fn_data {x qual : Str} {st : Stmt} {f : Addr} {fd : FuncData} {N ps : List Str} {k : Nat} {t : DS} (F : L2.Fun K x qual st f fd) (S : FnScope N ps (defScope st))
    (hbody : ∀ (cdv : Value) (A : Around) (outer : List PySem.Env) (s : Shared) (H : Hp) (E : XK), Room k (A.deeper (envOfC qual (defScope st) s.heap.objs.size f cdv)) →
      QSs (cxOf CX0 P w K mg base N qual (defScope st) f cdv A outer s H E).nox (defBody st) t) : FnOk P w K mg base CX0 (k + 1) f fd ps (spD K ps.length (wpOf N.length t)) := by
  refine F.ok S (fun vs H Q E h => h.1) fun cdv A outer s H vs Q E hr h => ⟨_, (hbody cdv A outer s H E hr).pss, ?_⟩
  obtain ⟨hl, w, es, P, r, er, hw, q⟩ := h
  have hpl : ps.length ≤ N.length := by have := congrArg List.length S.pre; rw [List.length_take] at this; omega
  exact ⟨w, H, [], startE N.length es, { nx := fun _ => P .none, rt := P }, ⟨[], start_rep r er (by rw [hl]; exact hpl)⟩, hw,
    fun ρ' σ' H' p ⟨O, rep⟩ => q .none .non H' p ⟨rep.s0, rep.r⟩ .non, fun _ _ _ p _ => p.elim, fun _ _ _ p _ => p.elim, fun d v H' p s r rp => q d v H' p ⟨s, r⟩ rp⟩
end
end Dw

namespace Dw
open PySem PySem.Spec PyProof.Rows L2

/-! ### data without lists lie apart from owned lists -/
mutual
def noList : D → Bool
  | .none => true
  | .bool _ => true
  | .int _ => true
  | .str _ => true
  | .list _ => false
  | .tuple ds => noLists ds
  | .dict _ => false
def noLists : List D → Bool
  | [] => true
  | d :: ds => noList d && noLists ds
end
theorem sqT_apart {K : PySem.W.Frag} {Z O : List Addr} {H : Hp} {a : Addr} {xs : List V} (h : SqT K (off Z H) a xs) (m : ∀ p ∈ O, Mut (H p)) : SqT K (off (Z ++ O) H) a xs := by
  have key : ∀ {o : HO}, off Z H a = some o → ¬ Mut (some o) → off (Z ++ O) H a = some o := fun {o} e nm => by
    rw [off_some] at e ⊢
    refine ⟨fun z => ?_, e.2⟩
    rcases List.mem_append.mp z with z | z
    · exact e.1 z
    · have := m a z
      rw [e.2] at this; exact nm this
  rcases h with (h | ⟨o, h⟩) | h
  · exact .inl (.inl (key h id))
  · exact .inl (.inr ⟨o, key h id⟩)
  · exact .inr h
mutual
theorem Rp.apart {K : PySem.W.Frag} {Z O : List Addr} {H : Hp} (m : ∀ p ∈ O, Mut (H p)) : ∀ {d : D} {v : V}, Rp K (off Z H) v d → noList d = true → Rp K (off (Z ++ O) H) v d
  | .none, _, h, _ => by cases h; exact .non
  | .bool _, _, h, _ => by cases h; exact .bl _
  | .int _, _, h, _ => by cases h; exact .int _
  | .str _, _, h, _ => by cases h; exact .str _
  | .list _, _, _, n => by simp [noList] at n
  | .tuple ds, _, h, n => by
    cases h with
    | tup e r => exact .tup (sqT_apart e m) (Rps.apart m r (by simpa [noList] using n))
  | .dict _, _, h, _ => by cases h
theorem Rps.apart {K : PySem.W.Frag} {Z O : List Addr} {H : Hp} (m : ∀ p ∈ O, Mut (H p)) : ∀ {ds : List D} {vs : List V}, Rps K (off Z H) vs ds → noLists ds = true → Rps K (off (Z ++ O) H) vs ds
  | [], _, h, _ => by cases h; exact .nil
  | d :: ds, _, h, n => by
    simp only [noLists, Bool.and_eq_true] at n
    cases h with
    | cons a b => exact .cons (Rp.apart m a n.1) (Rps.apart m b n.2)
end
theorem noLists_iff : ∀ {ds : List D}, noLists ds = true ↔ ∀ d ∈ ds, noList d = true
  | [] => by simp [noLists]
  | d :: ds => by simp [noLists, noLists_iff (ds := ds)]

/-! ### owned lists: given, frozen, set -/
section
variable {K : PySem.W.Frag} {w : Wd} {H0 H H' : Hp} {kp : List (V × D)} {O : List Addr} {σ : L2.St} {ρ : Env}
theorem Rep.grow (rep : Rep K w H0 kp O H σ ρ) (st : Stp w H H') {p : Addr} (hp : H p = none) (hp' : Mut (H' p)) : Rep K w H0 kp (p :: O) H' σ ρ := by
  have hZ : p ∉ w.Z := fun z => w.dom _ rep.r p z hp
  have h0 : H0 p = none := by
    cases q : H0 p with
    | none => rfl
    | some u =>
      have := rep.s0 p u (off_some.mpr ⟨hZ, q⟩)
      rw [(off_some.mp this).2] at hp; cases hp
  have so : Same (Dw.off (w.Z ++ O) H) (Dw.off (w.Z ++ p :: O) H') := fun b x e => by
    have e' := rep.off st b x e
    rw [off_some] at e e' ⊢
    refine ⟨fun z => ?_, e'.2⟩
    rcases List.mem_append.mp z with z | z
    · exact e.1 (List.mem_append_left _ z)
    · rcases List.mem_cons.mp z with z | z
      · rw [z, hp] at e; cases e.2
      · exact e.1 (List.mem_append_right _ z)
  have rep' := rep.stp st
  refine ⟨st.r, rep'.s0, fun a ha => ?_, fun a ha => ?_, fun q hq => (rep.kp q hq).mono so, rep.len, fun i e h => ?_, rep.apart⟩
  · rcases List.mem_cons.mp ha with rfl | ha
    · exact ⟨h0, hZ⟩
    · exact rep.o0 a ha
  · rcases List.mem_cons.mp ha with rfl | ha
    · exact hp'
    · exact rep'.oS a ha
  · obtain ⟨v, h1, h2⟩ := rep.var i e h
    refine ⟨v, h1, ?_⟩
    cases e with
    | d x => exact Rp.mono so h2
    | st => exact h2
    | own ds =>
      obtain ⟨a, vs, e1, e2, e3, e4⟩ := h2
      obtain ⟨v', h1', a', vs', e1', e2', e3', e4'⟩ := rep'.var i _ h
      rw [h1] at h1'; cases h1'
      rw [e1] at e1'; cases e1'
      have : vs' = vs := by
        have := (off_some.mp (st.s a _ (off_some.mpr ⟨(rep.o0 a e2).2, e3⟩))).2
        rw [e3'] at this; cases this; rfl
      subst this
      exact ⟨a, vs', e1, List.mem_cons_of_mem _ e2, e3', e4.mono so⟩
/-- a slot is given an owned list that no other slot has -/
theorem Rep.setO (rep : Rep K w H0 kp O H σ ρ) (i : Nat) {p : Addr} {vs : List V} {ds : List D} (hp : p ∈ O) (e : H p = some (.lst vs)) (r : Rps K (Dw.off (w.Z ++ O) H) vs ds)
    (no : ∀ (j : Nat) (es : List D), j ≠ i → ρ[j]? = some (some (.own es)) → σ[j]? ≠ some (some (.ref p))) : Rep K w H0 kp O H (σ.set i (some (.ref p))) (ρ.set i (some (.own ds))) := by
  have at_ : ∀ j (x : Ent), (ρ.set i (some (.own ds)))[j]? = some (some x) → (j = i ∧ x = .own ds ∧ i < ρ.length) ∨ (j ≠ i ∧ ρ[j]? = some (some x)) := fun j x h => by
    by_cases hj : i = j
    · subst hj
      by_cases hi : i < ρ.length
      · rw [List.getElem?_set_self hi] at h; cases h; exact .inl ⟨rfl, rfl, hi⟩
      · rw [List.getElem?_eq_none (by simpa using hi)] at h; cases h
    · rw [List.getElem?_set_ne hj] at h; exact .inr ⟨fun z => hj z.symm, h⟩
  refine ⟨rep.r, rep.s0, rep.o0, rep.oS, rep.kp, by simp [rep.len], fun j x h => ?_, fun j k es fs u hne h1 h2 h3 => ?_⟩
  · rcases at_ j x h with ⟨rfl, rfl, hi⟩ | ⟨hj, h⟩
    · exact ⟨.ref p, List.getElem?_set_self (by rw [← rep.len]; exact hi), p, vs, rfl, hp, e, r⟩
    · obtain ⟨u, e1, e2⟩ := rep.var j x h
      exact ⟨u, by rw [List.getElem?_set_ne (fun z => hj z.symm)]; exact e1, e2⟩
  · rcases at_ j _ h1 with ⟨rfl, _, hi⟩ | ⟨hj, h1'⟩
    · rw [List.getElem?_set_self (by rw [← rep.len]; exact hi)] at h3
      cases h3
      rcases at_ k _ h2 with ⟨rfl, _, _⟩ | ⟨hk, h2⟩
      · exact absurd rfl hne
      · rw [List.getElem?_set_ne (fun z => hk z.symm)]; exact no k fs hk h2
    · rw [List.getElem?_set_ne (fun z => hj z.symm)] at h3
      rcases at_ k _ h2 with ⟨rfl, _, hk⟩ | ⟨hk, h2⟩
      · rw [List.getElem?_set_self (by rw [← rep.len]; exact hk)]
        intro z; cases z
        exact no j es hj h1' h3
      · rw [List.getElem?_set_ne (fun z => hk z.symm)]
        exact rep.apart j k es fs u hne h1' h2 h3
/-- the owned list of a slot is changed -/
theorem Rep.updO (rep : Rep K w H0 kp O H σ ρ) {i : Nat} {p : Addr} {ds : List D} (hi : ρ[i]? = some (some (.own ds))) (hs : σ[i]? = some (some (.ref p))) {vs : List V} {es : List D} (r : Rps K (Dw.off (w.Z ++ O) H) vs es) :
    Rep K w H0 kp O (upd H p (.lst vs)) σ (ρ.set i (some (.own es))) := by
  obtain ⟨v, e1, p', vs', e2, hp, e3, e4⟩ := rep.var i _ hi
  rw [hs] at e1; cases e1; cases e2
  have hlt : i < ρ.length := (List.getElem?_eq_some_iff.mp hi).1
  -- forget the slot, change the list, give it back
  have rep1 : Rep K w H0 kp O H σ (ρ.set i none) := rep.weak (by simp [rep.len]) fun j e h => by
    by_cases hj : i = j
    · subst hj; rw [List.getElem?_set_self hlt] at h; cases h
    · rw [List.getElem?_set_ne hj] at h; exact ⟨h, rfl⟩
  have no : ∀ (j : Nat) (fs : List D), (ρ.set i none)[j]? = some (some (.own fs)) → σ[j]? ≠ some (some (.ref p)) := fun j fs h => by
    by_cases hj : i = j
    · subst hj; rw [List.getElem?_set_self hlt] at h; cases h
    · rw [List.getElem?_set_ne hj] at h
      exact rep.apart i j ds fs _ hj hi h hs
  have rep2 := own_upd rep1 hp (.lst vs) True.intro no
  have rep3 := rep2.setO i hp upd_same (r.mono (same_off_upd (.inl (List.mem_append_right _ hp)))) fun j fs _ h => no j fs h
  rw [List.set_set] at rep3
  have : σ.set i (some (V.ref p)) = σ := by
    apply List.ext_getElem?
    intro j
    by_cases hj : i = j
    · subst hj; rw [List.getElem?_set_self (by rw [← rep.len]; exact hlt), hs]
    · rw [List.getElem?_set_ne hj]
  rw [this] at rep3
  exact rep3
/-- the owned list of a slot becomes plain data -/
theorem Rep.freeze (rep : Rep K w H0 kp O H σ ρ) {i : Nat} {ds : List D} (hi : ρ[i]? = some (some (.own ds))) : ∃ O', Rep K w H0 kp O' H σ (ρ.set i (some (.d (.list ds)))) := by
  obtain ⟨v, e1, p, vs, e2, hp, e3, e4⟩ := rep.var i _ hi
  have hlt : i < ρ.length := (List.getElem?_eq_some_iff.mp hi).1
  have so : Same (Dw.off (w.Z ++ O) H) (Dw.off (w.Z ++ O.filter (fun a => decide (a ≠ p))) H) := off_same fun z hz => by
    rcases List.mem_append.mp hz with hz | hz
    · exact List.mem_append_left _ hz
    · exact List.mem_append_right _ (List.mem_filter.mp hz).1
  refine ⟨O.filter (fun a => decide (a ≠ p)), rep.r, rep.s0, fun a ha => rep.o0 a (List.mem_filter.mp ha).1, fun a ha => rep.oS a (List.mem_filter.mp ha).1, fun q hq => (rep.kp q hq).mono so, by simp [rep.len], fun j e h => ?_, fun j k es fs u hne h1 h2 h3 => ?_⟩
  · by_cases hj : i = j
    · subst hj
      rw [List.getElem?_set_self hlt] at h; cases h
      refine ⟨v, e1, ?_⟩
      rw [e2]
      exact .lst (off_some.mpr ⟨fun z => by
        rcases List.mem_append.mp z with z | z
        · exact (rep.o0 p hp).2 z
        · have := (List.mem_filter.mp z).2; simp at this, e3⟩) (e4.mono so)
    · rw [List.getElem?_set_ne hj] at h
      obtain ⟨u, f1, f2⟩ := rep.var j e h
      refine ⟨u, f1, ?_⟩
      cases e with
      | d x => exact Rp.mono so f2
      | st => exact f2
      | own es =>
        obtain ⟨a, ws, g1, g2, g3, g4⟩ := f2
        refine ⟨a, ws, g1, List.mem_filter.mpr ⟨g2, decide_eq_true ?_⟩, g3, g4.mono so⟩
        rintro rfl
        exact rep.apart i j ds es _ hj hi h (by rw [e1, e2]) (by rw [f1, g1])
  · have a : ∀ (j : Nat) (gs : List D), (ρ.set i (some (Ent.d (.list ds))))[j]? = some (some (Ent.own gs)) → ρ[j]? = some (some (Ent.own gs)) := fun j gs h => by
      by_cases hj : i = j
      · subst hj; rw [List.getElem?_set_self hlt] at h; cases h
      · rw [List.getElem?_set_ne hj] at h; exact h
    exact rep.apart j k es fs u hne (a j es h1) (a k fs h2) h3
end

/-! ### fresh lists -/
abbrev DF := Env → (List D → Prop) → Prop
def QRF (K : PySem.W.Frag) (f : DF) : TE := fun σ H Q => ∃ (w : Wd) (H0 : Hp) (kp : List (V × D)) (O : List Addr) (ρ : Env) (P : List D → Prop), Rep K w H0 kp O H σ ρ ∧ f ρ P ∧
  ∀ ds p vs H', P ds → Stp w H H' → H p = none → H' p = some (.lst vs) → Rps K (off (w.Z ++ p :: O) H') vs ds → Q (.ref p) H'
structure QF (X : Cx) (e : Expr) (f : DF) : Prop where
  pe : PE X e (QRF X.K f)
section
variable {K : PySem.W.Frag} {w : Wd} {H0 H H' H1 : Hp} {kp : List (V × D)} {O : List Addr} {σ : L2.St} {ρ : Env} {p : Addr}
theorem Stp.none (st : Stp w H H') (r : w.R H') (h : H' p = Option.none) : H p = Option.none := by
  have hZ : p ∉ w.Z := fun z => w.dom _ r p z h
  cases q : H p with
  | none => rfl
  | some o =>
    have := (off_some.mp (st.s p o (off_some.mpr ⟨hZ, q⟩))).2
    rw [h] at this; cases this
theorem rps_fresh {xs : List V} {ds : List D} (r : Rps K (Dw.off (w.Z ++ O) H) xs ds) (hp : H p = Option.none) (o : HO) : Rps K (Dw.off (w.Z ++ p :: O) (upd H p o)) xs ds :=
  r.mono fun b x e => by
    rw [off_some] at e ⊢
    have hb : b ≠ p := ne_of_none e.2 hp
    refine ⟨fun z => ?_, by rw [upd_ne hb]; exact e.2⟩
    rcases List.mem_append.mp z with z | z
    · exact e.1 (List.mem_append_left _ z)
    · rcases List.mem_cons.mp z with z | z
      · exact hb z
      · exact e.1 (List.mem_append_right _ z)
end
section
variable {X : Cx} {a b e : Expr} {es : List Expr} {fa fb : DE} {fas : DA} {ff : DF} {pos : Pos}
def fLst (fa : DA) : DF := fun ρ P => fa ρ fun ds => ds.length ≤ sizeLine ∧ P ds
theorem qf_lst (h : QA X es fas) : QF X (.List es pos) (fLst fas) :=
  ⟨pe_imp (pe_lst h.pa) fun σ H Q ⟨w, H0, kp, O, ρ, P, rep, h, q⟩ => rep.goA h fun ds vs H1 h1 s1 rep1 r1 =>
    ⟨by rw [r1.length]; exact h1.1, fun p hp => q _ p _ _ h1.2 (s1.trans (Stp.laid rep1.r hp)) (s1.none rep1.r hp) upd_same (rps_fresh r1 hp _)⟩⟩
/-- [..] * n -/
def fRep (f : DF) (g : DE) : DF := fun ρ P => f ρ fun ds => g ρ fun y => ∃ k, y = .int k ∧ (-(2 ^ 63) ≤ k ∧ k < 2 ^ 63 ∧ ds.length * k.toNat ≤ sizeLine) ∧ P (List.replicate k.toNat ds).flatten
theorem qf_rep (ha : QF X a ff) (hb : QE X b fb) : QF X (.BinOp a .Mult b pos) (fRep ff fb) :=
  ⟨pe_imp (pe_op op_rep ha.pe hb.pe) fun σ H Q ⟨w, H0, kp, O, ρ, P, rep, h, q⟩ => ⟨w, H0, kp, O, ρ, _, rep, h, fun ds p vs H1 h1 s1 hp e1 r1 => by
    have rep1 := rep.grow s1 hp (by rw [e1]; exact True.intro)
    refine rep1.go h1 fun y yv H2 ⟨k, ey, c, p2⟩ s2 rep2 ry => ?_
    subst ey
    have e2 : H2 p = some (.lst vs) := (off_some.mp (s2.s p _ (off_some.mpr ⟨(rep1.o0 p List.mem_cons_self).2, e1⟩))).2
    refine ⟨p, k, vs, rfl, ry.int_inv, e2, c.1, c.2.1, by rw [r1.length]; exact c.2.2, fun p2' hp2 => ?_⟩
    have st2 := s1.trans s2
    have r2 := r1.mono (rep1.off s2)
    have hp3 := s1.none (rep.stp s1).r (s2.none rep2.r hp2)
    refine q _ p2' _ _ p2 (st2.trans (Stp.laid rep2.r hp2)) hp3 upd_same ((rps_fresh (O := p :: O) (r2.rep _) hp2 _).mono (off_same fun z hz => ?_))
    rcases List.mem_append.mp hz with hz | hz
    · exact List.mem_append_left _ hz
    · rcases List.mem_cons.mp hz with hz | hz
      · exact List.mem_append_right _ (by simp [hz])
      · exact List.mem_append_right _ (by simp [hz])⟩⟩
/-- list(x) -/
def fListOf (fa : DE) : DF := fun ρ P => fa ρ fun x => match x with
  | .list ds => P ds
  | .tuple ds => P ds
  | _ => False
theorem qf_list {p : Pos} (hg : Gl X "list") (hm : X.mg "list" = none) (ha : QE X a fa) (he : starEach [a] X.env = (false, eval a X.env) :: starEach [] X.env := by rfl) (hpl : (backTo pos (starEach [] X.env)).any (·.1) = false := by rfl) :
    QF X (.Call (.Name "list" p) [a] [] pos) (fListOf fa) :=
  ⟨pe_imp (pe_callTy call_list_of hg hm (by decide +kernel) (pa_cons ha.pe pa_nil he) (by decide) (by decide) he hpl) fun σ H Q ⟨w, H0, kp, O, ρ, P, rep, h, q⟩ => rep.go h fun d v H1 h1 s1 rep1 r1 => by
    cases d <;> simp only at h1
    · obtain ⟨l, xs, rfl, e1, r⟩ := r1.list_inv
      exact ⟨l, xs, rfl, .inl (SqL.of (off_some.mp e1).2), fun p hp => q _ p _ _ h1 (s1.trans (Stp.laid rep1.r hp)) (s1.none rep1.r hp) upd_same (rps_fresh r hp _)⟩
    · obtain ⟨l, xs, rfl, e1, r⟩ := r1.tup_inv
      exact ⟨l, xs, rfl, .inr (sqT_off e1), fun p hp => q _ p _ _ h1 (s1.trans (Stp.laid rep1.r hp)) (s1.none rep1.r hp) upd_same (rps_fresh r hp _)⟩⟩
/-- a[lo:hi] of a list -/
def fSl (fa : DE) (fl fh : DO) : DF := fun ρ P => fa ρ fun x => fl ρ fun lo => fh ρ fun hi => match x with
  | .list ds => P (cutD ds lo hi)
  | _ => False
theorem qf_slice {lo hi : Option Expr} {fl fh : DO} {p2 : Pos} (ha : QE X a fa) (hl : QO X lo fl) (hh : QO X hi fh) : QF X (.Subscript a (.Slice lo hi none p2) pos) (fSl fa fl fh) :=
  ⟨pe_imp (pe_slice sl_list ha.pe hl.po hh.po) fun σ H Q ⟨w, H0, kp, O, ρ, P, rep, h, q⟩ => rep.go h fun x v H1 h1 s1 rep1 r1 => rep1.goO h1 fun lo H2 h2 s2 rep2 => rep2.goO h2 fun hi H3 h3 s3 rep3 => by
    have r3 := r1.mono ((rep1.off s2).trans (rep2.off s3))
    have st := (s1.trans s2).trans s3
    cases x <;> simp only at h3
    obtain ⟨l, xs, rfl, e1, r⟩ := r3.list_inv
    exact ⟨l, xs, rfl, SqL.of (off_some.mp e1).2, fun p hp => q _ p _ _ h3 (st.trans (Stp.laid rep3.r hp)) (st.none rep3.r hp) upd_same (rps_fresh (r.cut _ _) hp _)⟩⟩
/-- a + b of lists -/
def fAdd (fa fb : DE) : DF := fun ρ P => fa ρ fun x => fb ρ fun y => match x, y with
  | .list ds, .list es => ds.length + es.length ≤ sizeLine ∧ P (ds ++ es)
  | _, _ => False
theorem qf_add (ha : QE X a fa) (hb : QE X b fb) : QF X (.BinOp a .Add b pos) (fAdd fa fb) :=
  ⟨pe_imp (pe_op op_cat ha.pe hb.pe) fun σ H Q ⟨w, H0, kp, O, ρ, P, rep, h, q⟩ => rep.go h fun x v H1 h1 s1 rep1 r1 => rep1.go h1 fun y u H2 h2 s2 rep2 r2 => by
    cases x <;> cases y <;> simp only at h2
    obtain ⟨l, xs, rfl, e1, ra⟩ := (r1.mono (rep1.off s2)).list_inv
    obtain ⟨l2, ys, rfl, e2, rb⟩ := r2.list_inv
    have st := s1.trans s2
    exact ⟨l, l2, xs, ys, rfl, rfl, (off_some.mp e1).2, (off_some.mp e2).2, by rw [ra.length, rb.length]; exact h2.1, fun p hp => q _ p _ _ h2.2 (st.trans (Stp.laid rep2.r hp)) (st.none rep2.r hp) upd_same (rps_fresh (ra.append rb) hp _)⟩⟩
end
section
variable {X : Cx} {elt tg iter : Expr} {ifs : List Expr} {scope : Scope} {own : List (Str × Nat)} {pos : Pos} {it : DI} {g : DG} {is : List Nat} {tt : DT} {te : DE}
def fComp (it : DI) (g : DG) (tt : DT) (te : DE) (own : List Nat) : DF := fun ρ P => it ρ fun ds => wComp g tt te (wipeE ρ own) ds [] P
theorem tLc_F {K : PySem.W.Frag} {σ : L2.St} {H : Hp} {Q : VK} {vs : List Nat} (his : is.all (fun i => vs.contains i) = true) (h : QRF K (fComp it g tt te vs) σ H Q) : tLc (QRI K it) (QRG K g is) (QRT K tt) (QR K te) vs σ H Q := by
  obtain ⟨w, H0, kp, O, ρ, P, rep, h, q⟩ := h
  exact ⟨w, H0, kp, O, ρ, _, rep, h, fun ds J keep H' p st hk hJ D0 hD =>
    wComp_run (fun i hi => by simpa using List.all_eq_true.mp his i hi) hJ (rep.stp st) hk hD p fun out xs H2 p2 s2 e2 r2 => q _ D0 _ _ p2 (st.trans s2) (st.none (rep.stp st).r hD) e2 r2⟩
theorem qf_lc (hc : X.calm = true) (hN : X.N.Nodup) (hi : QI X tg iter it) (ok : BlkOk X.N X.env.scope scope own) (his : is.all (fun i => (own.map (·.2)).contains i) = true)
    (hg : ∀ (s : Shared) (H : Hp) (C : Addr) (cl : List (Str × Addr)) (fp : List Addr), QG (X.blk s H scope (compEnvC scope cl C X.env) fp) tg g is) (ht : ∀ (s : Shared) (H : Hp) (C : Addr) (cl : List (Str × Addr)) (fp : List Addr), QTs (X.blk s H scope (compEnvC scope cl C X.env) fp) ifs tt)
    (he : ∀ (s : Shared) (H : Hp) (C : Addr) (cl : List (Str × Addr)) (fp : List Addr), QE (X.blk s H scope (compEnvC scope cl C X.env) fp) elt te) (hs : ∀ x, foldedSetIterable iter X.env x = pure x := by intro _; rfl) :
    QF X (.ListComp elt [⟨tg, iter, ifs, 0⟩] scope pos) (fComp it g tt te (own.map (·.2))) :=
  ⟨pe_imp (pe_lc hc hN hi.pi ok (fun s H C cl fp => (hg s H C cl fp).pg) (fun s H C cl fp => (ht s H C cl fp).pts) (fun s H C cl fp => (he s H C cl fp).pe) hs) fun σ H Q h => tLc_F his h⟩
/-- a fresh list is a list -/
theorem QF.qe {e : Expr} {ff : DF} (h : QF X e ff) : QE X e (fun ρ P => ff ρ fun ds => P (.list ds)) :=
  ⟨pe_imp h.pe fun σ H Q ⟨w, H0, kp, O, ρ, P, rep, h, q⟩ => ⟨w, H0, kp, O, ρ, _, rep, h, fun ds p vs H' p1 st hp e r => q _ _ _ p1 st (lst_of (fun z => by
    rcases List.mem_append.mp z with z | z
    · exact w.dom _ rep.r p z hp
    · have := rep.oS p z; rw [hp] at this; exact this) e r)⟩⟩
end

/-! ### statements with owned lists -/
section
variable {X : Cx} {e : Expr} {fa fb : DE} {ff : DF} {t : DS} {st : Stmt} {pos : Pos} {i : Nat} {x : Str} {pos' : Pos}
theorem rep_new {K : PySem.W.Frag} {w : Wd} {H0 H H' : Hp} {kp : List (V × D)} {O : List Addr} {σ : L2.St} {ρ : Env} (rep : Rep K w H0 kp O H σ ρ) (i : Nat) {p : Addr} {vs : List V} {ds : List D} (s : Stp w H H') (hp : H p = none) (e : H' p = some (.lst vs)) (r : Rps K (off (w.Z ++ p :: O) H') vs ds) :
    Rep K w H0 kp (p :: O) H' (σ.set i (some (.ref p))) (ρ.set i (some (.own ds))) :=
  (rep.grow s hp (by rw [e]; exact True.intro)).setO i List.mem_cons_self e r fun j es _ h1 h2 => by
    obtain ⟨v, f1, a, ws, f2, f3, f4, f5⟩ := rep.var j _ h1
    rw [h2] at f1; cases f1; cases f2
    rw [hp] at f4; cases f4
/-- name = a fresh list, owned from now on -/
def dNew (i : Nat) (f : DF) : DS := fun E ρ => f ρ fun ds => E.nx (ρ.set i (some (.own ds)))
theorem qs_new (hN : X.N.Nodup) (hi : X.N[i]? = some x) (hx : Loc X.env.scope x) (he : QF X e ff) (hs : swapsWith e (some (.Name x pos')) pos.line X.env = pure false := by rfl) (hf : X.fn x = true ∨ X.env.scope.names.lookup x = some .local := by first | exact .inl rfl | exact .inr rfl | assumption) :
    QS X (.Assign [.Name x pos'] e pos) (dNew i ff) :=
  ⟨ps_imp (ps_set hN hi hx he.pe hs hf) fun D σ H ⟨w, H0, kp, ρ, E, ⟨O, rep⟩, h, q1, q2, q3, q4⟩ => ⟨w, H0, kp, O, ρ, _, rep, h, fun ds p vs H' p1 s hp e r => q1 _ _ _ p1 ⟨p :: O, rep_new rep i s hp e r⟩⟩⟩
/-- .. its items read off owned lists, without lists in them -/
def dNewW (i : Nat) (f : DF) : DS := fun E ρ => f (peek ρ) fun ds => noLists ds = true ∧ E.nx (ρ.set i (some (.own ds)))
theorem rps_weak {K : PySem.W.Frag} {w : Wd} {H0 H H' : Hp} {kp : List (V × D)} {O : List Addr} {σ : L2.St} {ρ : Env} (rep : Rep K w H0 kp O H σ ρ) {p : Addr} {vs : List V} {ds : List D} (s : Stp w H H') (hp : H p = none) (r : Rps K (off (w.Z ++ p :: []) H') vs ds) (n : noLists ds = true) :
    Rps K (off (w.Z ++ p :: O) H') vs ds := by
  have := r.apart (O := O) (rep.stp s).oS n
  rwa [List.append_assoc] at this
theorem qs_newW (hN : X.N.Nodup) (hi : X.N[i]? = some x) (hx : Loc X.env.scope x) (he : QF X e ff) (hs : swapsWith e (some (.Name x pos')) pos.line X.env = pure false := by rfl) (hf : X.fn x = true ∨ X.env.scope.names.lookup x = some .local := by first | exact .inl rfl | exact .inr rfl | assumption) :
    QS X (.Assign [.Name x pos'] e pos) (dNewW i ff) :=
  ⟨ps_imp (ps_set hN hi hx he.pe hs hf) fun D σ H ⟨w, H0, kp, ρ, E, ⟨O, rep⟩, h, q1, q2, q3, q4⟩ => ⟨w, H0, kp, [], peek ρ, _, rep.peek, h, fun ds p vs H' p1 s hp e r => q1 _ _ _ p1.2 ⟨p :: O, rep_new rep i s hp e (rps_weak rep s hp r p1.1)⟩⟩⟩
/-- name = value without lists, read off owned lists -/
def dSetN (i : Nat) (f : DE) : DS := fun E ρ => f (peek ρ) fun x => noList x = true ∧ E.nx (ρ.set i (some (.d x)))
theorem qs_setN (hN : X.N.Nodup) (hi : X.N[i]? = some x) (hx : Loc X.env.scope x) (he : QE X e fa) (hs : swapsWith e (some (.Name x pos')) pos.line X.env = pure false := by rfl) (hf : X.fn x = true ∨ X.env.scope.names.lookup x = some .local := by first | exact .inl rfl | exact .inr rfl | assumption) :
    QS X (.Assign [.Name x pos'] e pos) (dSetN i fa) :=
  ⟨ps_imp (ps_set hN hi hx he.pe hs hf) fun D σ H ⟨w, H0, kp, ρ, E, ⟨O, rep⟩, h, q1, q2, q3, q4⟩ => rep.peek.go h fun d v H' p st rep' r => q1 _ _ _ p.2 ⟨O, (rep.stp st).setD i (by
    rw [List.append_nil] at r
    exact r.apart (rep.stp st).oS p.1)⟩⟩
/-- name = a fresh list as data, its items read off owned lists -/
def dSetF (i : Nat) (f : DF) : DS := fun E ρ => f (peek ρ) fun ds => noLists ds = true ∧ E.nx (ρ.set i (some (.d (.list ds))))
theorem rp_weak {K : PySem.W.Frag} {w : Wd} {H0 H H' : Hp} {kp : List (V × D)} {O : List Addr} {σ : L2.St} {ρ : Env} (rep : Rep K w H0 kp O H σ ρ) {p : Addr} {vs : List V} {ds : List D} (s : Stp w H H') (hp : H p = none) (e : H' p = some (.lst vs)) (r : Rps K (off (w.Z ++ p :: []) H') vs ds) (n : noLists ds = true) :
    Rp K (off (w.Z ++ O) H') (.ref p) (.list ds) :=
  lst_of (fun z => by
    rcases List.mem_append.mp z with z | z
    · exact w.dom _ rep.r p z hp
    · have := rep.oS p z; rw [hp] at this; exact this) e (rps_weak rep s hp r n)
theorem qs_setF (hN : X.N.Nodup) (hi : X.N[i]? = some x) (hx : Loc X.env.scope x) (he : QF X e ff) (hs : swapsWith e (some (.Name x pos')) pos.line X.env = pure false := by rfl) (hf : X.fn x = true ∨ X.env.scope.names.lookup x = some .local := by first | exact .inl rfl | exact .inr rfl | assumption) :
    QS X (.Assign [.Name x pos'] e pos) (dSetF i ff) :=
  ⟨ps_imp (ps_set hN hi hx he.pe hs hf) fun D σ H ⟨w, H0, kp, ρ, E, ⟨O, rep⟩, h, q1, q2, q3, q4⟩ => ⟨w, H0, kp, [], peek ρ, _, rep.peek, h, fun ds p vs H' p1 s hp e r => q1 _ _ _ p1.2 ⟨O, (rep.stp s).setD i (rp_weak rep s hp e r p1.1)⟩⟩⟩
/-- ghost: the owned list of a slot is frozen ahead of a statement -/
def dFreeze (i : Nat) (t : DS) : DS := fun E ρ => ∃ ds, ρ[i]? = some (some (.own ds)) ∧ t E (ρ.set i (some (.d (.list ds))))
theorem qs_freeze (h : QS X st t) : QS X st (dFreeze i t) :=
  ⟨ps_imp h.ps fun D σ H ⟨w, H0, kp, ρ, E, ⟨O, rep⟩, ⟨ds, e, h⟩, q1, q2, q3, q4⟩ => ⟨w, H0, kp, _, E, rep.freeze e, h, q1, q2, q3, q4⟩⟩
/-- x.append(e) -/
def dApp (i : Nat) (f : DE) : DS := fun E ρ => ∃ ds, ρ[i]? = some (some (.own ds)) ∧ f ρ fun x => ds.length < sizeLine ∧ E.nx (ρ.set i (some (.own (ds ++ [x]))))
/-- .. the item read off owned lists -/
def dAppN (i : Nat) (f : DE) : DS := fun E ρ => ∃ ds, ρ[i]? = some (some (.own ds)) ∧ f (peek ρ) fun x => noList x = true ∧ ds.length < sizeLine ∧ E.nx (ρ.set i (some (.own (ds ++ [x]))))
theorem app_core {K : PySem.W.Frag} {w : Wd} {H0 H : Hp} {kp : List (V × D)} {O : List Addr} {σ : L2.St} {ρ : Env} {ds : List D} {v : V} {d : D} {Q : Hp → Prop} (rep : Rep K w H0 kp O H σ ρ) (hi : ρ[i]? = some (some (.own ds))) (r : Rp K (off (w.Z ++ O) H) v d) (hz : ds.length < sizeLine)
    (q : ∀ p vs, σ[i]? = some (some (.ref p)) → Rep K w H0 kp O (upd H p (.lst (vs ++ [v]))) σ (ρ.set i (some (.own (ds ++ [d])))) → Q (upd H p (.lst (vs ++ [v])))) :
    ∃ p vs, σ[i]? = some (some (.ref p)) ∧ H p = some (.lst vs) ∧ vs.length < sizeLine ∧ Q (upd H p (.lst (vs ++ [v]))) := by
  obtain ⟨u, e1, p, vs, e2, hp, e3, e4⟩ := rep.var i _ hi
  subst e2
  exact ⟨p, vs, e1, e3, by rw [e4.length]; exact hz, q p vs e1 (rep.updO hi e1 (e4.append (Rps.one r)))⟩
theorem qs_app {ap cp np : Pos} (he : QE X e fa) (hN : X.N[i]? = some x := by rfl) (hv : Vis X.env.scope x := by first | exact Or.inl rfl | exact Or.inr (Or.inl rfl) | exact Or.inr (Or.inr rfl)) (hd : (x == ("__debug__" : Str)) = false := by decide)
    (hcd : (x == ("__classdict__" : Str)) = false := by decide)
    (pb : ∀ {t : TA} (ha : PA X [e] t), PE X (.Call (.Attribute (.Name x np) "append" ap) [e] [] cp) (tBM X.K "list" (fun y ys H Q => rAppend y ys H Q) (tVar i) t) := by
      intro t ha; exact pe_bm PySem.F.plainAttrs_list PySem.F.slot_list_append PySem.F.type_list_append mt_append (pv _) ha)
    (hs : swapsWith (.Call (.Attribute (.Name x np) "append" ap) [e] [] cp) none pos.line X.env = pure false := by rfl) (hse : starEach [e] X.env = (false, eval e X.env) :: starEach [] X.env := by rfl) :
    QS X (.Expr (.Call (.Attribute (.Name x np) "append" ap) [e] [] cp) pos) (dApp i fa) :=
  ⟨ps_imp (ps_expr (pb (pa_cons he.pe pa_nil hse)) hs) fun D σ H ⟨w, H0, kp, ρ, E, ⟨O, rep⟩, ⟨ds, hi, h⟩, q1, q2, q3, q4⟩ => by
    obtain ⟨u, e1, p, vs, e2, hp, e3, e4⟩ := rep.var i _ hi
    subst e2
    refine ⟨_, e1, .inl ⟨rfl, _, SqL.of e3⟩, rep.go h fun d v H1 h1 s1 rep1 r1 => ?_⟩
    obtain ⟨p', vs', f1, f2, f3, f4⟩ := app_core (Q := fun H' => D.nx σ H') rep1 hi r1 h1.1 fun p' vs' g1 g2 => q1 _ _ _ h1.2 ⟨O, g2⟩
    rw [e1] at f1; cases f1
    exact ⟨p, vs', v, rfl, rfl, f2, f3, f4⟩⟩
theorem qs_appN {ap cp np : Pos} (he : QE X e fa) (hN : X.N[i]? = some x := by rfl) (hv : Vis X.env.scope x := by first | exact Or.inl rfl | exact Or.inr (Or.inl rfl) | exact Or.inr (Or.inr rfl)) (hd : (x == ("__debug__" : Str)) = false := by decide)
    (hcd : (x == ("__classdict__" : Str)) = false := by decide)
    (pb : ∀ {t : TA} (ha : PA X [e] t), PE X (.Call (.Attribute (.Name x np) "append" ap) [e] [] cp) (tBM X.K "list" (fun y ys H Q => rAppend y ys H Q) (tVar i) t) := by
      intro t ha; exact pe_bm PySem.F.plainAttrs_list PySem.F.slot_list_append PySem.F.type_list_append mt_append (pv _) ha)
    (hs : swapsWith (.Call (.Attribute (.Name x np) "append" ap) [e] [] cp) none pos.line X.env = pure false := by rfl) (hse : starEach [e] X.env = (false, eval e X.env) :: starEach [] X.env := by rfl) :
    QS X (.Expr (.Call (.Attribute (.Name x np) "append" ap) [e] [] cp) pos) (dAppN i fa) :=
  ⟨ps_imp (ps_expr (pb (pa_cons he.pe pa_nil hse)) hs) fun D σ H ⟨w, H0, kp, ρ, E, ⟨O, rep⟩, ⟨ds, hi, h⟩, q1, q2, q3, q4⟩ => by
    obtain ⟨u, e1, p, vs, e2, hp, e3, e4⟩ := rep.var i _ hi
    subst e2
    refine ⟨_, e1, .inl ⟨rfl, _, SqL.of e3⟩, rep.peek.go h fun d v H1 h1 s1 rep1 r1 => ?_⟩
    rw [List.append_nil] at r1
    obtain ⟨p', vs', f1, f2, f3, f4⟩ := app_core (Q := fun H' => D.nx σ H') (rep.stp s1) hi (r1.apart (rep.stp s1).oS h1.1) h1.2.1 fun p' vs' g1 g2 => q1 _ _ _ h1.2.2 ⟨O, g2⟩
    rw [e1] at f1; cases f1
    exact ⟨p, vs', v, rfl, rfl, f2, f3, f4⟩⟩
/-- name = [..] on one line -/
theorem qs_lc {elt tg iter : Expr} {ifs : List Expr} {scope : Scope} {own : List (Str × Nat)} {spos : Pos} {it : DI} {g : DG} {is : List Nat} {tt : DT} {te : DE} (u : DS)
    (hmd : ∀ D σ H, QRS X.K u D σ H → QRF X.K (fComp it g tt te (own.map (·.2))) σ H fun v H1 => D.nx (σ.set i (some v)) H1)
    (hc : X.calm = true) (hN : X.N.Nodup) (hy : X.N[i]? = some x) (hyl : X.env.scope.names.lookup x = some .local)
    (hsw : swapsWith (.ListComp elt [⟨tg, iter, ifs, 0⟩] scope pos) (some (.Name x pos')) spos.line X.env = pure true) (hi : QI X tg iter it) (ok : BlkOk X.N X.env.scope scope own) (his : is.all (fun i => (own.map (·.2)).contains i) = true)
    (hg : ∀ (s : Shared) (H : Hp) (C : Addr) (cl : List (Str × Addr)) (fp : List Addr), QG (X.blk s H scope (compEnvC scope cl C X.env) fp) tg g is) (ht : ∀ (s : Shared) (H : Hp) (C : Addr) (cl : List (Str × Addr)) (fp : List Addr), QTs (X.blk s H scope (compEnvC scope cl C X.env) fp) ifs tt)
    (he : ∀ (s : Shared) (H : Hp) (C : Addr) (cl : List (Str × Addr)) (fp : List Addr), QE (X.blk s H scope (compEnvC scope cl C X.env) fp) elt te) (hs : ∀ x, foldedSetIterable iter X.env x = pure x := by intro _; rfl) :
    QS X (.Assign [.Name x pos'] (.ListComp elt [⟨tg, iter, ifs, 0⟩] scope pos) spos) u :=
  ⟨ps_imp (ps_setLc hc hN hy hyl hsw hi.pi ok (fun s H C cl fp => (hg s H C cl fp).pg) (fun s H C cl fp => (ht s H C cl fp).pts) (fun s H C cl fp => (he s H C cl fp).pe) hs) fun D σ H h => tLc_F his (hmd D σ H h)⟩
end
section
variable {K : PySem.W.Frag} {i : Nat} {f : DF} {D : Ends} {σ : L2.St} {H : Hp}
/-- the ways to store a fresh list: as data, as data read off owned ones, as an owned one, .. -/
def dSetL (i : Nat) (f : DF) : DS := fun E ρ => f ρ fun ds => E.nx (ρ.set i (some (.d (.list ds))))
theorem md_set (h : QRS K (dSetL i f) D σ H) : QRF K f σ H fun v H1 => D.nx (σ.set i (some v)) H1 := by
  obtain ⟨w, H0, kp, ρ, E, ⟨O, rep⟩, h, q1, _⟩ := h
  exact ⟨w, H0, kp, O, ρ, _, rep, h, fun ds p vs H' p1 s hp e r => q1 _ _ _ p1 ⟨O, (rep.stp s).setD i (lst_of (fun z => by
    rcases List.mem_append.mp z with z | z
    · exact w.dom _ rep.r p z hp
    · have := rep.oS p z; rw [hp] at this; exact this) e r)⟩⟩
theorem md_setF (h : QRS K (dSetF i f) D σ H) : QRF K f σ H fun v H1 => D.nx (σ.set i (some v)) H1 := by
  obtain ⟨w, H0, kp, ρ, E, ⟨O, rep⟩, h, q1, _⟩ := h
  exact ⟨w, H0, kp, [], peek ρ, _, rep.peek, h, fun ds p vs H' p1 s hp e r => q1 _ _ _ p1.2 ⟨O, (rep.stp s).setD i (rp_weak rep s hp e r p1.1)⟩⟩
theorem md_new (h : QRS K (dNew i f) D σ H) : QRF K f σ H fun v H1 => D.nx (σ.set i (some v)) H1 := by
  obtain ⟨w, H0, kp, ρ, E, ⟨O, rep⟩, h, q1, _⟩ := h
  exact ⟨w, H0, kp, O, ρ, _, rep, h, fun ds p vs H' p1 s hp e r => q1 _ _ _ p1 ⟨p :: O, rep_new rep i s hp e r⟩⟩
theorem md_newW (h : QRS K (dNewW i f) D σ H) : QRF K f σ H fun v H1 => D.nx (σ.set i (some v)) H1 := by
  obtain ⟨w, H0, kp, ρ, E, ⟨O, rep⟩, h, q1, _⟩ := h
  exact ⟨w, H0, kp, [], peek ρ, _, rep.peek, h, fun ds p vs H' p1 s hp e r => q1 _ _ _ p1.2 ⟨p :: O, rep_new rep i s hp e (rps_weak rep s hp r p1.1)⟩⟩
end
end Dw

namespace Dw
open PySem PySem.Spec PyProof.Rows L2

theorem hu_room {k : Nat} {A : Around} (r : Room k A) : A.units + 102 < cLine := by have := r.un; omega
theorem hu1_room {k : Nat} {A : Around} (r : Room k A) : A.units + 101 < cLine := by have := r.un; omega
section
variable {X : Cx} {tg a b c e : Expr} {fa fb fc : DE} {pos : Pos}
/-- a list or a tuple, walked -/
def dSeqI (fa : DE) : DI := fun ρ P => fa ρ fun x => match x with | .list ds => P ds | .tuple ds => P ds | _ => False
theorem qi_seq (ha : QE X a fa) : QI X tg a (dSeqI fa) := by
  refine ⟨⟨fun pins s σ H R I h => ?_⟩⟩
  obtain ⟨w, H0, kp, O, ρ, P, rep, h, q⟩ := h
  refine one1 ha I rep h fun v s1 x H1 dx I1 r1 st rep1 rp h1 => ?_
  cases dx <;> simp only at h1
  · obtain ⟨l, xs, rfl, e1, r⟩ := rp.list_inv
    cases r1
    obtain ⟨its, rv, pl, hz⟩ := I1.list (SqL.of (off_some.mp e1).2)
    refine wpAny_pyIter_list pl.isList ?_
    refine ⟨s1.heap.objs.size, [s1.heap.objs.size], _, _, H1, rfl, I1.kept (t' := s1.toks) fun b o e => Heap.get?_push_of_some _ e, turn_list l _, ⟨_, Heap.get?_push_size _ rfl, rfl, rfl⟩, fun b hb => ?_,
      q _ _ _ _ h1 st (fun p hp => by rw [List.mem_singleton.mp hp]; exact rp) (isL l _)⟩
    have e : b = s1.heap.objs.size := by simpa using hb
    subst e
    exact I1.fpOk (Nat.le_refl _) (I1.hok.fresh (Nat.le_refl _))
  · obtain ⟨l, xs, rfl, e1, r⟩ := rp.tup_inv
    cases r1
    obtain ⟨its, rv, pl, hz⟩ := I1.tuple (sqT_off e1)
    refine wpAny_pyIter_tuple (show s1.heap.IsTuple l its.toArray from pl) ?_
    refine ⟨s1.heap.objs.size, [s1.heap.objs.size], _, _, H1, rfl, I1.kept (t' := s1.toks) fun b o e => Heap.get?_push_of_some _ e, turn_tuple l _, ⟨_, Heap.get?_push_size _ rfl, rfl, rfl⟩, fun b hb => ?_,
      q _ _ _ _ h1 st (fun p hp => by rw [List.mem_singleton.mp hp]; exact rp) (isT l _)⟩
    have e : b = s1.heap.objs.size := by simpa using hb
    subst e
    exact I1.fpOk (Nat.le_refl _) (I1.hok.fresh (Nat.le_refl _))
/-- a op1 b op2 c -/
def dChain (g g' : G2) (fa fb fc : DE) : DE := fun ρ P => fa ρ fun x => fb ρ fun y => g x y fun z => ∃ k, z = .bool k ∧ if k = true then fc ρ fun u => g' y u P else P (.bool false)
theorem qe_chain {op op' : CmpOp} {g g' : G2} (ho : OpD X (compareOp op) g) (ho' : OpD X (compareOp op') g') (ha : QE X a fa) (hb : QE X b fb) (hc : QE X c fc)
    (hm : lastMarks [op, op'] [b, c] = false := by with_unfolding_all rfl) : QE X (.Compare a [op, op'] [b, c] pos) (dChain g g' fa fb fc) := by
  refine ⟨⟨fun pins s σ H Q I h => ?_⟩⟩
  obtain ⟨w, H0, kp, O, ρ, P, rep, h, q⟩ := h
  refine Compare_chain (one1 ha I rep h fun v s1 x H1 dx I1 r1 st1 rep1 rx h1 => chain_link (one1 hb I1 rep1 h1 fun u s2 y H2 dy I2 r2 st2 rep2 ry h2 => ?_)) hm
  refine thn (ho pins s2 σ H2 x y v u w O dx dy _ (fun v' H' => ∃ k, v' = .bl k ∧ Stp w H2 H' ∧ if k = true then fc ρ fun u => g' dy u P else P (.bool false)) I2 r1 r2 rep2.wok (rx.mono (rep1.off st2)) ry h2 fun d v' H' p s r => ?_) fun cv s3 ⟨z, H3, I3, r3, k, e, st3, p3⟩ => ?_
  · obtain ⟨k, rfl, p⟩ := p
    exact ⟨k, r.bool_inv, s, p⟩
  · subst e
    cases r3
    have rep3 := rep2.stp st3
    refine wpAny_truthy_bool ?_
    cases k with
    | false =>
      simp only [Bool.false_eq_true, if_false] at p3
      exact ite_ff ⟨.bl false, H3, I3, rfl, q _ _ _ p3 ((st1.trans st2).trans st3) (.bl _)⟩
    | true =>
      simp only [if_true] at p3
      exact ite_tt (chain_last (one1 hc I3 rep3 p3 fun w' s4 z' H4 dz I4 r4 st4 rep4 rz h4 => ho' pins s4 σ H4 y z' u w' w O dy dz P Q I4 r2 r4 rep4.wok (ry.mono ((rep2.off st3).trans (rep3.off st4))) rz h4 fun d v H' p s r => q d v H' p ((((st1.trans st2).trans st3).trans st4).trans s) r))
theorem qt_chain {op op' : CmpOp} {g g' : G2} (ho : OpD X (compareOp op) g) (ho' : OpD X (compareOp op') g') (ha : QE X a fa) (hb : QE X b fb) (hc : QE X c fc)
    (hm : lastMarks [op, op'] [b, c] = false := by with_unfolding_all rfl) : QT X (.Compare a [op, op'] [b, c] pos) (dTest (dChain g g' fa fb fc)) := by
  refine ⟨⟨fun pins s σ H Q I h => ?_⟩⟩
  obtain ⟨w, H0, kp, O, ρ, P, rep, h, q⟩ := h
  refine isTrue_chain (one1 ha I rep h fun v s1 x H1 dx I1 r1 st1 rep1 rx h1 => test_link (one1 hb I1 rep1 h1 fun u s2 y H2 dy I2 r2 st2 rep2 ry h2 => ?_)) hm
  refine thn (ho pins s2 σ H2 x y v u w O dx dy _ (fun v' H' => ∃ k, v' = .bl k ∧ Stp w H2 H' ∧ if k = true then fc ρ fun u => g' dy u fun x => ∃ k, x = .bool k ∧ P k else ∃ k, PyData.bool false = .bool k ∧ P k) I2 r1 r2 rep2.wok (rx.mono (rep1.off st2)) ry h2 fun d v' H' p s r => ?_) fun cv s3 ⟨z, H3, I3, r3, k, e, st3, p3⟩ => ?_
  · obtain ⟨k, rfl, p⟩ := p
    exact ⟨k, r.bool_inv, s, p⟩
  · subst e
    cases r3
    have rep3 := rep2.stp st3
    refine wpAny_truthy_bool ?_
    cases k with
    | false =>
      simp only [Bool.false_eq_true, if_false] at p3
      obtain ⟨k', e', p'⟩ := p3
      cases e'
      exact ite_ff ⟨H3, I3, q _ _ p' ((st1.trans st2).trans st3)⟩
    | true =>
      simp only [if_true] at p3
      refine ite_tt (test_last (one1 hc I3 rep3 p3 fun w' s4 z' H4 dz I4 r4 st4 rep4 rz h4 => ?_))
      refine thn (ho' pins s4 σ H4 y z' u w' w O dy dz _ (fun v' H' => ∃ k, v' = .bl k ∧ Stp w H4 H' ∧ P k) I4 r2 r4 rep4.wok (ry.mono ((rep2.off st3).trans (rep3.off st4))) rz h4 fun d v' H' p s r => ?_) fun c2 s5 ⟨z2, H5, I5, r5, k, e, st5, p5⟩ => ?_
      · obtain ⟨k, rfl, p⟩ := p
        exact ⟨k, r.bool_inv, s, p⟩
      · subst e
        cases r5
        exact wpAny_truthy_bool ⟨H5, I5, q _ _ p5 ((((st1.trans st2).trans st3).trans st4).trans st5)⟩
end
end Dw

namespace Dw
open PySem PySem.Spec PyProof.Rows L2

section
variable {P : Program} {w : World} {K : PySem.W.Frag} {mg : Str → Option Value} {base : Heap}
/-- a def by its body -/
theorem fn_dataD {x qual : Str} {st : Stmt} {f : Addr} {fd : FuncData} {N ps : List Str} {k : Nat} {t : DS} (F : FunD K x qual (defArgs st) (defBody st) (defScope st) [] [] f fd) (S : FnScope N ps (defScope st))
    (hbody : ∀ (cdv : Value) (A : Around) (outer : List PySem.Env) (s : Shared) (H : Hp) (E : XK), Room k (A.deeper (envOfC qual (defScope st) s.heap.objs.size f cdv)) →
      QSs (cxOf CX0 P w K mg base N qual (defScope st) f cdv A outer s H E).nox (defBody st) t) : FnOk P w K mg base CX0 (k + 1) f fd ps (spD K ps.length (wpOf N.length t)) := by
  refine F.ok S (fun vs H Q E h => h.1) fun cdv A outer s H vs Q E hr h => ⟨_, (hbody cdv A outer s H E hr).pss.nox, ?_⟩
  obtain ⟨hl, w, es, P, r, er, hw, q⟩ := h
  have hpl : ps.length ≤ N.length := by have := congrArg List.length S.pre; rw [List.length_take] at this; omega
  exact ⟨w, H, [], startE N.length es, { nx := fun _ => P .none, rt := P }, ⟨[], start_rep r er (by rw [hl]; exact hpl)⟩, hw,
    fun ρ' σ' H' p ⟨O, rep⟩ => q .none .non H' p ⟨rep.s0, rep.r⟩ .non, fun _ _ _ p _ => p.elim, fun _ _ _ p _ => p.elim, fun d v H' p s r rp => q d v H' p ⟨s, r⟩ rp⟩
end
section
variable {X : Cx} {a b e : Expr} {fa fb : DE} {pos : Pos}
theorem qe_gint {x : Str} {i : Int} (hg : Gl X x) (hm : ∃ t, X.mg x = some (.int i t)) (hd : (x == ("__debug__" : Str)) = false := by decide) : QE X (.Name x pos) (dC (.int i)) := by
  obtain ⟨t, hm⟩ := hm
  exact qe_glob hg hm (v := .int i) ⟨t, rfl⟩ (fun _ => .int i) hd
/-- list(range(a)), list(range(a, b)) -/
def dListR1 (fa : DE) : DE := fun ρ P => fa ρ fun x => ∃ n, x = .int n ∧ (0 ≤ n ∧ n ≤ 16777216) ∧ P (.list (rngD 0 n))
theorem rps_rng {K : PySem.W.Frag} {H : Hp} (a b : Int) : Rps K H (rgV a b) (rngD a b) := by
  unfold rgV rngD
  have : ∀ l : List Nat, Rps K H (l.map fun i => V.int (a + (i : Nat))) (l.map fun i => PyData.int (a + (i : Nat))) := by
    intro l
    induction l with
    | nil => exact .nil
    | cons x xs ih => exact .cons (.int _) ih
  exact this _
theorem qe_listR1 {p q : Pos} (hc : X.calm = true) (hg : Gl X "list") (hm : X.mg "list" = none) (hg2 : Gl X "range") (hm2 : X.mg "range" = none) (ha : QE X a fa) (na : starEach [a] X.env = (false, eval a X.env) :: starEach [] X.env := by rfl)
    (nb : starEach [.Call (.Name "range" q) [a] [] pos] X.env = (false, eval (.Call (.Name "range" q) [a] [] pos) X.env) :: starEach [] X.env := by rfl) {pos' : Pos} :
    QE X (.Call (.Name "list" p) [.Call (.Name "range" q) [a] [] pos] [] pos') (dListR1 fa) :=
  ⟨pe_imp (pe_listRg hc hg hm (prg_1 hg2 hm2 ha.pe na) nb) fun σ H Q ⟨w, H0, kp, O, ρ, P, rep, h, q⟩ => rep.go h fun d v H1 ⟨n, e, hn, h1⟩ s1 rep1 r1 => by
    subst e
    exact ⟨n, r1.int_inv, RgOk.of_le (by omega) hn.2 (by omega) hn.1, fun l hl => q _ _ _ h1 (s1.trans (Stp.laid rep1.r hl)) (rep1.wok.lst hl (rps_rng 0 n))⟩⟩
def dListR2 (fa fb : DE) : DE := fun ρ P => fa ρ fun x => fb ρ fun y => ∃ m n, x = .int m ∧ y = .int n ∧ (0 ≤ m ∧ m ≤ 16777216 ∧ 0 ≤ n ∧ n ≤ 16777216) ∧ P (.list (rngD m n))
theorem qe_listR2 {p q : Pos} (hc : X.calm = true) (hg : Gl X "list") (hm : X.mg "list" = none) (hg2 : Gl X "range") (hm2 : X.mg "range" = none) (ha : QE X a fa) (hb : QE X b fb) (na : starEach [a, b] X.env = (false, eval a X.env) :: starEach [b] X.env := by rfl)
    (nb0 : starEach [b] X.env = (false, eval b X.env) :: starEach [] X.env := by rfl) (np : (backTo pos (starEach [b] X.env)).any (·.1) = false := by rfl)
    (nb : starEach [.Call (.Name "range" q) [a, b] [] pos] X.env = (false, eval (.Call (.Name "range" q) [a, b] [] pos) X.env) :: starEach [] X.env := by rfl) {pos' : Pos} :
    QE X (.Call (.Name "list" p) [.Call (.Name "range" q) [a, b] [] pos] [] pos') (dListR2 fa fb) :=
  ⟨pe_imp (pe_listRg hc hg hm (prg_2 hg2 hm2 ha.pe hb.pe na nb0 np) nb) fun σ H Q ⟨w, H0, kp, O, ρ, P, rep, h, q⟩ => rep.go h fun d v H1 h1 s1 rep1 r1 => rep1.go h1 fun d2 v2 H2 ⟨m, n, e, e2, hn, h2⟩ s2 rep2 r2 => by
    subst e; subst e2
    exact ⟨m, n, r1.int_inv, r2.int_inv, RgOk.of_le hn.1 hn.2.2.2 hn.2.1 hn.2.2.1, fun l hl => q _ _ _ h2 ((s1.trans s2).trans (Stp.laid rep2.r hl)) (rep2.wok.lst hl (rps_rng m n))⟩⟩
end

/-! ### the law's state -/
section
variable {P : Program} {w : World} {K : PySem.W.Frag} {mg : Str → Option Value} {base : Heap}
def wpTake : Sd := fun es P => ∃ m : Int, es = [.st, .d (.int m)] ∧ m < 2 ^ 62 ∧ ∀ r : D, (∃ i : Int, r = .int i ∧ 0 ≤ i ∧ i < max m 1) → P r
/-- the world of the law's own state -/
def lawWd (a c : Addr) : Wd where
  Z := [a, c]
  st := a
  R := fun H => ∃ i ns, StOk H a c i ns
  fr := fun H H' ⟨i, ns, h⟩ e => ⟨i, ns, h.i0, h.ne, h.n0, h.len, (e a (by simp)).trans h.ha, (e c (by simp)).trans h.hc⟩
  dom := fun H ⟨i, ns, h⟩ b hb => by
    rcases List.mem_cons.mp hb with rfl | hb
    · rw [h.ha]; simp
    · rcases List.mem_cons.mp hb with rfl | hb
      · rw [h.hc]; simp
      · cases hb
theorem lawWd_st (a c : Addr) : StW (lawWd a c) := ⟨fun H ⟨i, ns, h⟩ => by
  have hac := h.ac
  refine ⟨c, i, ns, h, by simp [lawWd], by simp [lawWd], fun i' h0 => ⟨i', ns, h0, h.ne, h.n0, h.len, upd_same, ?_⟩, fun ns' a1 a2 a3 => ⟨i, ns', h.i0, a1, a2, a3, ?_, upd_same⟩⟩
  · show upd H a _ c = _
    rw [upd_ne (show c ≠ a from fun e => hac e.symm)]; exact h.hc
  · rw [upd_ne hac]; exact h.ha⟩
/-- what _law_state gives -/
def spState (K : PySem.W.Frag) : Sp := fun vs H Q _ => ∃ (s : Addr) (ns : List Int), vs = [.ref s] ∧ SqL K H s (ns.map V.int) ∧ ns.length ≤ 63 ∧
  ∀ a c H', H a = none → H c = none → Same H H' → (lawWd a c).R H' → Q (.ref a) H'
/-- the law's promise -/
def spLaw (K : PySem.W.Frag) : Sp := fun vs H Q _ => ∃ (s : Addr) (ns : List Int), vs = [.ref s] ∧ SqL K H s (ns.map V.int) ∧ ns.length ≤ 63 ∧ ∀ H', Q (.bl true) H'
end
end Dw

namespace Dw
open PySem PySem.Spec PyProof.Rows L2

/-! ### the law as a whole -/
section
variable {P : Program} {w : World} {K : PySem.W.Frag} {mg : Str → Option Value} {base : Heap}
theorem fn_law {st : Stmt} {f fS : Addr} {fd fdS : FuncData} {N : List Str} {k slot : Nat} {t : DS} {rest : List Stmt} {p1 p2 p3 p4 p5 : Pos} (F : FunD K "law" "law" (defArgs st) (defBody st) (defScope st) [] [] f fd) (S : FnScope N ["script"] (defScope st))
    (hb : defBody st = .Assign [.Name "state" p1] (.Call (.Name "_law_state" p2) [.Name "script" p3] [] p4) p5 :: rest) (hi : N[slot]? = some ("state" : Str)) (h0 : 1 ≤ slot) (GS : FnOk P w K mg base CX0 1 fS fdS ["script"] (spState K))
    (hgl : (defScope st).names.lookup ("_law_state" : Str) = some .globalImplicit) (hm : mg "_law_state" = some (.ref fS)) (hk : PySem.W.keepIn K (.ref fS) = true) (hbS : Binds K fdS ["script"] [])
    (hloc : (defScope st).names.lookup ("state" : Str) = some .local ∨ (defScope st).names.lookup ("state" : Str) = some .cell)
    (hbody : ∀ (cdv : Value) (A : Around) (outer : List PySem.Env) (s : Shared) (H : Hp) (E : XK), Room (k + 1) (A.deeper (envOfC "law" (defScope st) s.heap.objs.size f cdv)) →
      QSs (cxOf CX0 P w K mg base N "law" (defScope st) f cdv A outer s H E).nox rest t)
    (hlaw : t { nx := fun _ => False, rt := fun d => d = .bool true } ((List.replicate N.length none).set slot (some .st))) : FnOk P w K mg base CX0 (k + 2) f fd ["script"] (spLaw K) := by
  refine F.ok S (fun vs H Q E h => by obtain ⟨a, ns, rfl, _⟩ := h; rfl) fun cdv A outer s H vs Q E hr h => ⟨tSeq (tAsg (tCall (spState K) [] E0 (tCons (tVar 0) tNil)) (gName slot)) (QRS K t), PSs.nox ?_, ?_⟩
  · rw [hb]
    have hN0 : N[0]? = some ("script" : Str) := by
      have := S.pre
      cases N with
      | nil => simp at this
      | cons a b => simp at this; simp [this]
    have hvs : Vis (defScope st) ("script" : Str) := by
      rcases S.par "script" (by simp) with z | z
      · exact .inl z
      · exact .inr (.inl z)
    exact pss_cons (ps_set (i := slot) S.nd hi hloc (pe_call GS (hr.mono (by omega)) hgl hm hk hbS .nil pass0 (pa_cons (pe_var (i := 0) hN0 hvs) pa_nil))) (hbody cdv A outer s H E hr).pss
  · obtain ⟨sa, ns, rfl, hS, hl, q⟩ := h
    refine ⟨.ref sa, ?_, ?_⟩
    · have : (N.length - 1) + 1 = N.length := by have := (List.getElem?_eq_some_iff.mp hi).1; omega
      unfold L2.start
      simp
    · refine ⟨sa, ns, rfl, hS, hl, fun a c H' ha hc hsame hR => ?_⟩
      have hlen : slot < N.length := (List.getElem?_eq_some_iff.mp hi).1
      refine ⟨lawWd a c, H', [], (List.replicate N.length none).set slot (some .st), _, ⟨[], hR, fun _ _ e => e, fun b hb => by simp at hb, fun b hb => by simp at hb, fun p hp => by simp at hp, ?_, fun i e h => ?_, fun i j ds es v _ h1 => ?_⟩, hlaw,
        fun _ _ _ z _ => z.elim, fun _ _ _ z _ => z.elim, fun _ _ _ z _ => z.elim, fun d v H2 e _ _ r => ?_⟩
      · simp [L2.start]; omega
      · by_cases hj : slot = i
        · subst hj
          rw [List.getElem?_set_self (by simpa using hlen)] at h
          cases h
          exact ⟨.ref a, by rw [List.getElem?_set_self]; simp [L2.start]; omega, rfl, lawWd_st a c⟩
        · rw [List.getElem?_set_ne hj, List.getElem?_replicate] at h
          split at h <;> cases h
      · by_cases hj : slot = i
        · subst hj
          rw [List.getElem?_set_self (by simpa using hlen)] at h1
          cases h1
        · rw [List.getElem?_set_ne hj, List.getElem?_replicate] at h1
          split at h1 <;> cases h1
      · subst e
        rw [r.bool_inv]; exact q H2
end

/-! ### two names, one of them given an owned list -/
inductive MItem where
  | d (x : D)
  | own (ds : List D)
abbrev DM := Env → (List MItem → Prop) → Prop
def mEnt : MItem → Ent
  | .d x => .d x
  | .own ds => .own ds
def QRM (K : PySem.W.Frag) (f : DM) : TA := fun σ H Q => ∃ (w : Wd) (H0 : Hp) (kp : List (V × D)) (O : List Addr) (ρ : Env) (P : List MItem → Prop), Rep K w H0 kp O H σ ρ ∧ f ρ P ∧
  ∀ ms vs H' O', P ms → Stp w H H' → Rep K w H0 kp O' H' σ ρ → Same (off (w.Z ++ O) H) (off (w.Z ++ O') H') → (∀ a ∈ O, a ∈ O') → EntsR K w O' H' vs (ms.map mEnt) →
    (∀ (i : Nat) (p : Addr) (ds : List D), vs[i]? = some (.ref p) → ms[i]? = some (.own ds) → H p = none) →
    (∀ (i j : Nat) (p : Addr) (ds es : List D), i ≠ j → vs[i]? = some (.ref p) → ms[i]? = some (.own ds) → ms[j]? = some (.own es) → vs[j]? ≠ some (.ref p)) → Q vs H'
structure QM (X : Cx) (es : List Expr) (f : DM) : Prop where
  pa : PA X es (QRM X.K f)
def mNil : DM := fun _ P => P []
def mConsD (f : DE) (g : DM) : DM := fun ρ P => f ρ fun x => g ρ fun xs => P (.d x :: xs)
def mConsF (f : DF) (g : DM) : DM := fun ρ P => f ρ fun ds => g ρ fun xs => P (.own ds :: xs)
section
variable {X : Cx} {e : Expr} {es : List Expr} {fa : DE} {ff : DF} {fm : DM} {pos : Pos}
theorem qm_nil : QM X [] mNil := ⟨pa_imp pa_nil fun σ H Q ⟨w, H0, kp, O, ρ, P, rep, h, q⟩ => q _ _ _ O h (Stp.refl rep.r) rep (fun _ _ e => e) (fun _ h => h) .nil (fun i p ds h => by simp at h) (fun i j p ds es _ h => by simp at h)⟩
theorem qm_consD (ha : QE X e fa) (hr : QM X es fm) (hs : starEach (e :: es) X.env = (false, eval e X.env) :: starEach es X.env := by rfl) : QM X (e :: es) (mConsD fa fm) :=
  ⟨pa_imp (pa_cons ha.pe hr.pa hs) fun σ H Q ⟨w, H0, kp, O, ρ, P, rep, h, q⟩ => rep.go h fun d v H1 h1 s1 rep1 r1 => ⟨w, H0, kp, O, ρ, _, rep1, h1, fun ms vs H2 O2 p2 s2 rep2 so sub en f1 f2 =>
    q _ _ _ O2 p2 (s1.trans s2) rep2 ((rep.off s1).trans so) sub (.cons (r1.mono so) en) (fun i p ds a b => by
      cases i with
      | zero => simp at b
      | succ i => exact s1.none rep1.r (f1 i p ds (by simpa using a) (by simpa using b))) (fun i j p ds es' hne a b c => by
      cases i with
      | zero => simp at b
      | succ i => cases j with
        | zero => simp at c
        | succ j => exact fun z => f2 i j p ds es' (by omega) (by simpa using a) (by simpa using b) (by simpa using c) (by simpa using z))⟩⟩
theorem qm_consF (ha : QF X e ff) (hr : QM X es fm) (hs : starEach (e :: es) X.env = (false, eval e X.env) :: starEach es X.env := by rfl) : QM X (e :: es) (mConsF ff fm) :=
  ⟨pa_imp (pa_cons ha.pe hr.pa hs) fun σ H Q ⟨w, H0, kp, O, ρ, P, rep, h, q⟩ => ⟨w, H0, kp, O, ρ, _, rep, h, fun ds p vs H1 h1 s1 hp e1 r1 => by
    have rep1 := rep.grow s1 hp (by rw [e1]; exact True.intro)
    refine ⟨w, H0, kp, p :: O, ρ, _, rep1, h1, fun ms us H2 O2 p2 s2 rep2 so sub en f1 f2 => ?_⟩
    have hpZ : p ∉ w.Z := (rep1.o0 p List.mem_cons_self).2
    have e2 : H2 p = some (.lst vs) := (off_some.mp (s2.s p _ (off_some.mpr ⟨hpZ, e1⟩))).2
    have so1 : Same (off (w.Z ++ O) H) (off (w.Z ++ p :: O) H1) := fun b x e => by
      have e' := rep.off s1 b x e
      rw [off_some] at e e' ⊢
      refine ⟨fun z => ?_, e'.2⟩
      rcases List.mem_append.mp z with z | z
      · exact e.1 (List.mem_append_left _ z)
      · rcases List.mem_cons.mp z with z | z
        · rw [z, hp] at e; cases e.2
        · exact e.1 (List.mem_append_right _ z)
    refine q _ _ _ O2 p2 (s1.trans s2) rep2 (so1.trans so) (fun a ha => sub a (List.mem_cons_of_mem _ ha)) (.cons ⟨p, vs, rfl, sub p List.mem_cons_self, e2, r1.mono so⟩ en) (fun i p' ds' a b => ?_) (fun i j p' ds' es' hne a b c => ?_)
    · cases i with
      | zero => simp at a; subst a; exact hp
      | succ i => exact s1.none rep1.r (f1 i p' ds' (by simpa using a) (by simpa using b))
    · cases i with
      | zero =>
        simp at a; subst a
        cases j with
        | zero => exact absurd rfl hne
        | succ j =>
          intro z
          have := f1 j p es' (by simpa using z) (by simpa using c)
          rw [e1] at this; cases this
      | succ i => cases j with
        | zero =>
          intro z
          simp at z
          subst z
          have := f1 i p ds' (by simpa using a) (by simpa using b)
          rw [e1] at this; cases this
        | succ j => exact fun z => f2 i j p' ds' es' (by omega) (by simpa using a) (by simpa using b) (by simpa using c) (by simpa using z)⟩⟩
theorem Rep.setM {K : PySem.W.Frag} {w : Wd} {H0 H : Hp} {kp : List (V × D)} {O : List Addr} {σ : L2.St} {ρ : Env} (rep : Rep K w H0 kp O H σ ρ) (i : Nat) {v : V} {m : MItem} (r : EntR K w O H v (mEnt m))
    (no : ∀ (p : Addr) (ds : List D), v = .ref p → m = .own ds → ∀ (j : Nat) (es : List D), j ≠ i → ρ[j]? = some (some (.own es)) → σ[j]? ≠ some (some (.ref p))) : Rep K w H0 kp O H (σ.set i (some v)) (ρ.set i (some (mEnt m))) := by
  cases m with
  | d x => exact rep.setD i r
  | own ds =>
    obtain ⟨p, vs, rfl, hp, e, rs⟩ := r
    exact rep.setO i hp e rs (no p ds rfl rfl)
def dParM (i j : Nat) (f : DM) : DS := fun E ρ => f ρ fun xs => match xs with
  | [x, y] => E.nx ((ρ.set i (some (mEnt x))).set j (some (mEnt y)))
  | _ => False
theorem qs_parM {i j : Nat} {x y : Str} {a b : Expr} {px py pt : Pos} {kt k2 pt2} (hc : X.calm = true) (hN : X.N.Nodup) (hi : X.N[i]? = some x) (hj : X.N[j]? = some y) (hij : i ≠ j)
    (hx : X.env.scope.names.lookup x = some .local) (hy : X.env.scope.names.lookup y = some .local) (ha : QM X [a, b] fm)
    (hw : swappedStores [.Tuple [.Name x px, .Name y py] kt pt] (.Tuple [a, b] k2 pt2) X.env = pure (some [x, y]))
    (hs : swapsWithSole [.Tuple [.Name x px, .Name y py] kt pt] (.Tuple [a, b] k2 pt2) pos.line X.env = pure false := by rfl) :
    QS X (.Assign [.Tuple [.Name x px, .Name y py] kt pt] (.Tuple [a, b] k2 pt2) pos) (dParM i j fm) :=
  ⟨ps_imp (ps_par hc hN hi hj hij hx hy ha.pa hw hs) fun D σ H ⟨w, H0, kp, ρ, E, ⟨O, rep⟩, h, q1, q2, q3, q4⟩ => ⟨w, H0, kp, O, ρ, _, rep, h, fun ms vs H' O' pq st rep' so sub en f1 f2 => by
    split at pq
    · rename_i m1 m2
      cases en with
      | cons en1 en =>
        cases en with
        | cons en2 en =>
          cases en
          rename_i v u
          refine ⟨v, u, rfl, q1 _ _ _ pq ⟨O', ?_⟩⟩
          have fr : ∀ (p : Addr), H p = none → ∀ (j : Nat) (es : List Dw.D), ρ[j]? = some (some (.own es)) → σ[j]? ≠ some (some (.ref p)) := fun p hp j es h1 h2 => by
            obtain ⟨v', g1, a', ws, g2, g3, g4, g5⟩ := rep.var j _ h1
            rw [h2] at g1; cases g1; cases g2
            rw [hp] at g4; cases g4
          have r1 := rep'.setM i en1 (fun p ds e1 e2 j es _ h1 => by subst e1 e2; exact fr p (f1 0 p ds rfl rfl) j es h1)
          refine r1.setM j en2 (fun p ds e1 e2 j' es hne h1 => ?_)
          subst e1 e2
          have hp := f1 1 p ds rfl rfl
          by_cases hji : i = j'
          · subst hji
            have hlt : i < ρ.length := by
              rw [rep.len, ]
              by_cases z : i < σ.length
              · exact z
              · rw [List.getElem?_eq_none (by simp [rep.len]; omega)] at h1; cases h1
            rw [List.getElem?_set_self hlt] at h1
            rw [List.getElem?_set_self (by rw [← rep.len]; exact hlt)]
            intro z
            cases z
            cases m1 with
            | d x => simp [mEnt] at h1
            | own es' => exact f2 0 1 p es' ds (by decide) rfl rfl rfl rfl
          · rw [List.getElem?_set_ne hji] at h1
            rw [List.getElem?_set_ne hji]
            exact fr p hp j' es h1
    · exact pq.elim⟩⟩
end
end Dw

namespace Dw
open PySem PySem.Spec PyProof.Rows L2
section
variable {X : Cx} {a b e : Expr} {fa fb : DE} {pos : Pos}
theorem firstMet_nd (val : Nat → Int) : ∀ i, (PyProof.Rows.firstMet val i).Nodup
  | 0 => List.nodup_nil
  | i + 1 => by
    rw [PyProof.Rows.firstMet_succ]
    have ih := firstMet_nd val i
    unfold PyProof.Rows.step_dedup
    split
    · exact ih
    · rename_i h
      rw [List.nodup_append]
      refine ⟨ih, by simp, fun a ha b hb e => h ?_⟩
      rw [List.mem_singleton] at hb
      subst hb; subst e
      exact List.any_eq_true.mpr ⟨_, ha, beq_self_eq_true _⟩
def tLenSetD (K : PySem.W.Frag) (ta : TE) : TE := fun σ H Q => ta σ H fun x H1 => ∃ (l : Addr) (ns : List Int), x = .ref l ∧ (SqL K H1 l (ns.map V.int) ∨ SqT K H1 l (ns.map V.int)) ∧ ns.length ≤ 4000 ∧ ∀ ms : List Int, ms.Nodup → (∀ k, k ∈ ms ↔ k ∈ ns) → Q (.int (ms.length : Nat)) H1
theorem pe_lenSetD {a : Expr} {ta : TE} {p p2 q pos : Pos} (hg : Gl X "len") (hm : X.mg "len" = none) (hg2 : Gl X "set") (hm2 : X.mg "set" = none) (ha : PE X a ta) (hc : X.calm = true := by rfl)
    (na : starEach [a] X.env = (false, eval a X.env) :: starEach [] X.env := by rfl) : PE X (.Call (.Name "len" p) [.Call (.Name "set" p2) [a] [] q] [] pos) (tLenSetD X.K ta) :=
  ⟨fun pins s σ H Q J h => by
    refine Call_ (ld_blt J hg hm boot_len (PyProof.Rows.callWith_builtin1 (PyProof.Rows.args_cons (Call_ (ld_blt J hg2 hm2 boot_set ?_)) rfl) rfl rfl))
    refine PyProof.Rows.callWith_type1 (PyProof.Rows.args_cons (thn (ha.run pins s σ H _ J h) fun v s1 ⟨x, H1, J1, r1, l, ns, ex, hq, hl, q1⟩ => PyProof.Rows.args_nil ?_) na) na rfl
    subst ex
    cases r1
    rcases hq with hq | hq
    · obtain ⟨its, r, pl, hz⟩ := J1.list hq
      have hn : its.toArray.size = ns.length := (List.size_toArray ..).trans (r.length.symm.trans (List.length_map ..))
      have hi : IntsAre its.toArray.toList ns := RZ.intsAre_vals r
      refine call_set_list (J1.ok.hd hc) pl.isList hi (by rw [hn]; unfold scanBound; omega) fun h2 tk hS hk => PyProof.Rows.args_nil ?_
      have hle := PyProof.Rows.firstMet_length_le (fun i => ns.getD i 0) its.toArray.size
      have hany := PyProof.Rows.firstMet_any (fun i => ns.getD i 0) its.toArray.size
      have hnd := firstMet_nd (fun i => ns.getD i 0) its.toArray.size
      generalize PyProof.Rows.firstMet (fun i => ns.getD i 0) its.toArray.size = ms at hS hle hany hnd
      obtain ⟨o, es, ep, t, ho, hex, hd, _, _, _, hf, hc⟩ := hS
      have J2 : Inv X pins σ H1 { s1 with heap := h2, toks := tk } := J1.kept fun b o e => hk b o (Heap.lt_size e) e
      refine call_len_set ho hex hd hf (by rw [hc] <;> omega) ⟨.int ms.length, H1, J2.tok _, ⟨_, by rw [hc]⟩, q1 ms hnd fun k => ?_⟩
      have e1 := hany k
      have e2 : (List.range its.toArray.size).map (fun i => ns.getD i 0) = ns := by
        rw [hn]
        refine List.ext_getElem (by simp) fun i h1 h2 => ?_
        rw [List.getElem_map, List.getElem_range, List.getD_eq_getElem?_getD, List.getElem?_eq_getElem (by simpa using h2)]
        rfl
      rw [e2] at e1
      rw [Bool.eq_iff_iff, List.any_eq_true, List.any_eq_true] at e1
      constructor
      · intro hk
        obtain ⟨x, hx, e⟩ := e1.mp ⟨k, hk, beq_self_eq_true k⟩
        rwa [← eq_of_beq e]
      · intro hk
        obtain ⟨x, hx, e⟩ := e1.mpr ⟨k, hk, beq_self_eq_true k⟩
        rwa [← eq_of_beq e]
    · obtain ⟨its, r, pl, hz⟩ := J1.tuple hq
      have hi : IntsAre its.toArray.toList ns := RZ.intsAre_vals r
      have pl : s1.heap.IsTuple l its.toArray := pl
      refine call_set_tupI ns (J1.ok.hd hc) pl hi (by unfold scanBound; omega) fun h2 tk c hS hcl hk => PyProof.Rows.args_nil ?_
      obtain ⟨o, es, ep, t, ho, hex, hd, _, hnd, hmem, _, hf, hcc, _, _⟩ := hS
      have J2 : Inv X pins σ H1 { s1 with heap := h2, toks := tk } := J1.kept fun b o e => hk b o e
      have hcs : (es.size : Int) < 2 ^ 63 := by rw [hcc]; omega
      have hq := q1 (es.toList.map keyOf) hnd fun k => by rw [← hmem k]; simp
      rw [List.length_map, Array.length_toList] at hq
      exact call_len_set ho hex hd hf hcs ⟨.int es.size, H1, J2.tok _, ⟨_, rfl⟩, hq⟩⟩
def dLenSet (fa : DE) : DE := fun ρ P => fa ρ fun x => ∃ ns : List Int, seqOf x = some (ns.map PyData.int) ∧ ns.length ≤ 4000 ∧ ∀ ms : List Int, ms.Nodup → (∀ k, k ∈ ms ↔ k ∈ ns) → P (.int (ms.length : Nat))
theorem qe_lenSet {p p2 q : Pos} (hg : Gl X "len") (hm : X.mg "len" = none) (hg2 : Gl X "set") (hm2 : X.mg "set" = none) (ha : QE X a fa) (hc : X.calm = true := by rfl)
    (na : starEach [a] X.env = (false, eval a X.env) :: starEach [] X.env := by rfl) : QE X (.Call (.Name "len" p) [.Call (.Name "set" p2) [a] [] q] [] pos) (dLenSet fa) :=
  ⟨pe_imp (pe_lenSetD hg hm hg2 hm2 ha.pe hc na) fun σ H Q ⟨w, H0, kp, O, ρ, P, rep, h, q⟩ => rep.go h fun d v H1 ⟨ns, e, hl, h1⟩ s1 rep1 r1 => by
    obtain ⟨l, xs, rfl, hp, rs⟩ := Rps.sq r1 e
    have := rs.ints
    subst this
    exact ⟨l, ns, rfl, hp, hl, fun ms a1 a2 => q _ _ _ (h1 ms a1 a2) s1 (.int _)⟩⟩
end
end Dw

namespace Dw
open PySem PySem.Spec PyProof.Rows L2 PySem.Calls
section
variable {prog : Program} {w : World} {A : Around} {E : Value → Shared → Prop} {s : Shared} {R : Value → PyData → Prop}
theorem sorting_push_old {h : Heap} {vs : List Value} {b : Addr} {o : Obj} (e : h.get? b = some o) : (PySem.W.sortingHeap (h.push (seqObj "list" vs.toArray 0)) h.objs.size vs).get? b = some o :=
  PySem.W.sortingHeap_old (Nat.ne_of_lt (Heap.lt_size e)) (Heap.get?_push_of_some _ e)
/-- sorted(a) over what collect gives -/
theorem sorted_coll {l : Addr} {T : List Value → Shared → Prop} {Q : Value → Shared → Prop}
    (hc : ∀ E', wpAny (model prog w) A.in1 (collect (.ref l)) T E' s)
    (hq : ∀ vs s1, T vs s1 → ∃ bs : List PyData, PySem.W.EachIs R vs bs ∧ PySem.W.EachIs (fun v b => ∃ as, Reads s1.heap v b as) vs bs ∧ PySem.W.AllAlike bs ∧ PySem.W.Sortable bs ∧ vs.length ≤ sizeLine ∧ (∀ b, b ∈ bs → A.units + 2 + b.depth < cLine) ∧
      ∀ out, out.length = bs.length → PySem.W.EachIs R out (bs.mergeSort (PySem.W.dataLe false id)) → Q (.ref s1.heap.objs.size) { s1 with heap := sortedHeap (s1.heap.push (seqObj "list" vs.toArray 0)) s1.heap.objs.size vs (List.toArray out) }) :
    wpAny (model prog w) A (call (.builtin "sorted") [.ref l]) Q E s := by
  refine call_function_entry_kw kind_sorted plain_sorted entry_sorted (args_sorted1 _) ?_
  unfold Builtin.«sorted»
  refine wpAny_bind (m := checkCount "sorted" 1 1 _) (wpAny_pure (wpAny_bind (wpAny_mono (hc _) (fun vs s1 ht => ?_) fun _ _ z => z)))
  obtain ⟨bs, e, er, hal, hk, hL, hu, h⟩ := hq vs s1 ht
  have at1 : (s1.heap.push (seqObj "list" vs.toArray 0)).get? s1.heap.objs.size = some (seqObj "list" vs.toArray 0) := Heap.get?_push_size _ rfl
  have er1 : PySem.W.EachIs (fun v b => ∃ as, Reads (PySem.W.sortingHeap (s1.heap.push (seqObj "list" vs.toArray 0)) s1.heap.objs.size vs) v (id b) as) vs bs := er.mono fun _ _ ⟨as, r⟩ => ⟨as, PyProof.Rows.Reads.keeps (fun _ _ z => sorting_push_old z) r⟩
  refine wpAny_bind (wpAny_newList (wpAny_bind (wpAny_holding (wpAny_call_entry_kw slot_list_sort ⟨_, at1, rfl⟩ entry_list_sort ?_ (args_list_sort _)))) hL)
  have S := PySem.W.SortsAt.data (prog := prog) (w := w) (A := A.in1.in1) (s := { s1 with heap := PySem.W.sortingHeap (s1.heap.push (seqObj "list" vs.toArray 0)) s1.heap.objs.size vs })
    (PySem.W.each_map (R := fun v d => ∃ as, Reads (PySem.W.sortingHeap (s1.heap.push (seqObj "list" vs.toArray 0)) s1.heap.objs.size vs) v d as) id er1) (by rw [List.map_id]; exact hal) (by rw [List.map_id]; exact hk) (PySem.W.bound_map (A := A.in1.in1) (enc := id) hu)
  refine PySem.W.list_sort_vals (s := { s1 with heap := s1.heap.push (seqObj "list" vs.toArray 0) }) at1 S hL ⟨_, rfl, wpAny_pure ⟨_, rfl, ?_⟩⟩
  exact h _ (by rw [PySem.W.sortVals_length false rfl]; exact e.length) (PySem.W.sortVals_data (enc := id) false e er1 (by rw [List.map_id]; exact hal))
end
def sortedA : GL := fun ds P => match ds with
  | [.list a] => (PySem.W.AllAlike a ∧ PySem.W.Sortable a ∧ PyData.depthAll a ≤ 100) ∧ P (.list (a.mergeSort (PySem.W.dataLe false id)))
  | [.tuple a] => (PySem.W.AllAlike a ∧ PySem.W.Sortable a ∧ PyData.depthAll a ≤ 100) ∧ P (.list (a.mergeSort (PySem.W.dataLe false id)))
  | _ => False
section
variable {X : Cx}
theorem cd_sortedA (hu : X.A.units + 102 < cLine) : CallD X (.builtin "sorted") sortedA := by
  intro pins s σ H xs us w O ds P Q I r k rp h q
  unfold sortedA at h
  split at h
  · exact cd_sorted hu pins s σ H xs us w O _ P Q I r k rp h q
  · obtain ⟨x, rfl, px⟩ := rps_one rp
    obtain ⟨a, ys, rfl, e1, r1⟩ := px.tup_inv
    obtain ⟨⟨hal, hso, hd⟩, h⟩ := h
    obtain ⟨u, rfl, ru⟩ := vals1 r
    cases ru
    obtain ⟨its, rv, ⟨o, ho, hcl, n, hdt⟩, hz⟩ := I.tuple (sqT_off e1)
    obtain ⟨as, hr⟩ := Inv.readsAll I rv r1
    rename_i dl
    have hlen := rv.length
    refine sorted_coll (R := fun v d => ∃ y, RelV y v ∧ Rp X.K (off (w.Z ++ O) H) y d) (T := fun vs s1 => vs = its ∧ ∃ h', (∀ b o', s.heap.get? b = some o' → h'.get? b = some o') ∧ s1 = { s with heap := h' })
      (fun E' => PySem.wpAny_collect_seq a (.inr rfl) ho hcl hdt (fun h' hk => ⟨by simp, h', hk, rfl⟩) (by rw [List.size_toArray, ← hlen]; exact hz)) ?_
    rintro vs _ ⟨ev, h', hk, rfl⟩
    subst ev
    refine ⟨dl, each_rps rv r1, ?_, hal, hso, by rw [← hlen]; exact hz, fun b hb => ?_, fun out ho2 hout => ?_⟩
    · have hr2 : ReadsAll h' vs (dl.map id) as := by rw [List.map_id]; exact ReadsAll.keeps hk hr
      have := PySem.W.readsAll_each id hr2
      exact this.mono fun _ _ z => z
    · have := depth_mem hb
      omega
    · obtain ⟨zs, rz, pz⟩ := rps_each hout
      have I1 : Inv X pins σ H { s with heap := h', toks := s.toks } := I.kept hk
      have at1 : (h'.push (seqObj "list" (List.toArray vs) 0)).get? h'.objs.size = some (seqObj "list" (List.toArray vs) 0) := Heap.get?_push_size _ rfl
      obtain ⟨ep, he'⟩ := sortedHeap_at (vs := vs) (out := out.toArray) at1
      have hn : H h'.objs.size = none := I1.hok.fresh (Nat.le_refl _)
      refine ⟨.ref _, upd H h'.objs.size (.lst zs), I1.laid (t' := s.toks) (fun b u hb => ?_) (Nat.le_refl _) ⟨?_, _, ep, rz, he'⟩, rfl, q _ _ _ h (Stp.laid k.r hn) (k.lst hn pz)⟩
      · have hlt := Heap.lt_size hb
        rw [sortedHeap_old (Nat.ne_of_lt hlt) (by rw [size_push']; exact Nat.lt_succ_of_lt hlt)]
        exact Heap.get?_push_of_some _ hb
      · rw [pz.length, List.length_mergeSort, ← r1.length]; exact hz
  · exact h.elim
end
end Dw

namespace Dw
open PySem PySem.Spec PyProof.Rows L2
open PySem.W (Datum Tup)

/-! ### readings, in plain Lean -/
theorem go_no {b : Bool} {A B : Prop} (h : b = false) (q : B) : if b = true then A else B := by subst h; exact q
theorem go_yes {b : Bool} {A B : Prop} (h : b = true) (q : A) : if b = true then A else B := by subst h; exact q
theorem go_if {b : Bool} {A B : Prop} (h1 : b = true → A) (h2 : b = false → B) : if b = true then A else B := by
  cases b
  · exact h2 rfl
  · exact h1 rfl
theorem eqv_toD {α : Type} [DecidableEq α] [Datum α] (a b : α) : PyData.eqv (Datum.toD a) (Datum.toD b) = decide (a = b) := Datum.eqv a b
theorem eqv_int (i j : Int) : PyData.eqv (.int i) (.int j) = decide (i = j) := Datum.eqv i j
theorem eqv_ints (a b : List Int) : PyData.eqv (.list (a.map PyData.int)) (.list (b.map PyData.int)) = decide (a = b) := Datum.eqv a b
theorem eqv_tints (a b : List Int) : PyData.eqv (.tuple (a.map PyData.int)) (.tuple (b.map PyData.int)) = decide (a = b) :=
  (Datum.eqv (Tup.mk a) (Tup.mk b)).trans (decide_eq_decide.mpr ⟨fun e => by injection e, fun e => by rw [e]⟩)
theorem any_ints (ns : List Int) (x : Int) : ((ns.map PyData.int).any fun d => PyData.eqv d (.int x)) = decide (x ∈ ns) := PySem.W.any_datum ns x
theorem eqv_self (d : D) (h : d.plain = true) : PyData.eqv d d = true := PySem.SeqAt.eqv_refl_plain d h
theorem depth_int (i : Int) : (PyData.int i).depth = 0 := by simp [PyData.depth]
theorem depth_toD {α : Type} [DecidableEq α] [Datum α] (a : α) (h : Datum.depth α ≤ 100) : (Datum.toD a).depth ≤ 100 := Nat.le_trans (Datum.depth_le a) h
theorem rng_nat (n : Nat) : rngD 0 (n : Int) = (List.range n).map fun i => .int ((i : Nat) : Int) := by
  unfold rngD
  rw [show ((n : Int) - 0).toNat = n by omega]
  exact List.map_congr_left fun i _ => by rw [Int.zero_add]
theorem rng_len (a b : Int) : (rngD a b).length = (b - a).toNat := by unfold rngD; simp

/-- the lists of a comprehension -/
theorem wComp_fm {g : DG} {tt : DT} {te : DE} {ρ : Env} (p : D → Bool) (f : D → D) : ∀ (ds acc : List D) {P : List D → Prop},
    (∀ d ∈ ds, ∀ (K1 : D → Prop) (K2 : Prop), (p d = true → K1 (f d)) → (p d = false → K2) → g d ρ fun ρ2 => tt ρ2 fun b => if b = true then te ρ2 K1 else K2) →
    acc.length + ds.length ≤ sizeLine → P (acc ++ (ds.filter p).map f) → wComp g tt te ρ ds acc P
  | [], acc, P, _, _, h => by
    show P acc
    simpa using h
  | d :: ds, acc, P, h, hl, hP => by
    refine h d (List.mem_cons_self ..) _ _ (fun e => ⟨by simp at hl; omega, ?_⟩) (fun e => ?_)
    · refine wComp_fm p f ds _ (fun d hd => h d (List.mem_cons_of_mem _ hd)) (by simp at hl ⊢; omega) ?_
      rw [List.filter_cons_of_pos e, List.map_cons] at hP
      simpa using hP
    · refine wComp_fm p f ds _ (fun d hd => h d (List.mem_cons_of_mem _ hd)) (by simp at hl ⊢; omega) ?_
      rw [List.filter_cons_of_neg (by simp [e])] at hP
      exact hP
theorem wComp_map {g : DG} {te : DE} {ρ : Env} (f : D → D) (ds : List D) {P : List D → Prop}
    (h : ∀ d ∈ ds, ∀ (K : D → Prop), K (f d) → g d ρ fun ρ2 => te ρ2 K) (hl : ds.length ≤ sizeLine) (hP : P (ds.map f)) : wComp g dYes te ρ ds [] P :=
  wComp_fm (fun _ => true) f ds [] (fun d hd K1 K2 k1 _ => h d hd K1 (k1 rfl)) (by simpa using hl) (by rw [List.filter_eq_self.mpr (fun _ _ => rfl)]; simpa using hP)
/-- .. over items that are written by enc -/
theorem wComp_a {g : DG} {tt : DT} {te : DE} {ρ : Env} {α : Type} (enc : α → D) (p : α → Bool) (f : α → D) : ∀ (xs : List α) (acc : List D) {P : List D → Prop},
    (∀ a ∈ xs, ∀ (K1 : D → Prop) (K2 : Prop), (p a = true → K1 (f a)) → (p a = false → K2) → g (enc a) ρ fun ρ2 => tt ρ2 fun b => if b = true then te ρ2 K1 else K2) →
    acc.length + xs.length ≤ sizeLine → P (acc ++ (xs.filter p).map f) → wComp g tt te ρ (xs.map enc) acc P
  | [], acc, P, _, _, h => by
    show P acc
    simpa using h
  | d :: ds, acc, P, h, hl, hP => by
    refine h d (List.mem_cons_self ..) _ _ (fun e => ⟨by simp at hl; omega, ?_⟩) (fun e => ?_)
    · refine wComp_a enc p f ds _ (fun d hd => h d (List.mem_cons_of_mem _ hd)) (by simp at hl ⊢; omega) ?_
      rw [List.filter_cons_of_pos e, List.map_cons] at hP
      simpa using hP
    · refine wComp_a enc p f ds _ (fun d hd => h d (List.mem_cons_of_mem _ hd)) (by simp at hl ⊢; omega) ?_
      rw [List.filter_cons_of_neg (by simp [e])] at hP
      exact hP
theorem wComp_t {g : DG} {tt : DT} {te : DE} {ρ : Env} {α : Type} (enc : α → D) (p : α → Bool) (f : α → D) (xs : List α) {P : List D → Prop}
    (h : ∀ a ∈ xs, ∀ (K1 : D → Prop) (K2 : Prop), (p a = true → K1 (f a)) → (p a = false → K2) → g (enc a) ρ fun ρ2 => tt ρ2 fun b => if b = true then te ρ2 K1 else K2)
    (hl : xs.length ≤ sizeLine) (hP : P ((xs.filter p).map f)) : wComp g tt te ρ (xs.map enc) [] P :=
  wComp_a enc p f xs [] h (by simpa using hl) (by simpa using hP)
theorem wComp_tm {g : DG} {te : DE} {ρ : Env} {α : Type} (enc : α → D) (f : α → D) (xs : List α) {P : List D → Prop}
    (h : ∀ a ∈ xs, ∀ (K : D → Prop), K (f a) → g (enc a) ρ fun ρ2 => te ρ2 K)
    (hl : xs.length ≤ sizeLine) (hP : P (xs.map f)) : wComp g dYes te ρ (xs.map enc) [] P :=
  wComp_t enc (fun _ => true) f xs (fun d hd K1 K2 k1 _ => h d hd K1 (k1 rfl)) hl (by rw [List.filter_eq_self.mpr (fun _ _ => rfl)]; exact hP)
theorem wComp_rng {g : DG} {te : DE} {ρ : Env} (f : Nat → D) (n : Nat) {P : List D → Prop}
    (h : ∀ i, i < n → ∀ (K : D → Prop), K (f i) → g (.int (i : Nat)) ρ fun ρ2 => te ρ2 K)
    (hl : n ≤ sizeLine) (hP : P ((List.range n).map f)) : wComp g dYes te ρ (rngD 0 (n : Int)) [] P := by
  rw [rng_nat]
  exact wComp_tm _ f _ (fun i hi => h i (List.mem_range.mp hi)) (by simpa using hl) hP
theorem wComp_rngT {g : DG} {tt : DT} {te : DE} {ρ : Env} (p : Nat → Bool) (f : Nat → D) (n : Nat) {P : List D → Prop}
    (h : ∀ i, i < n → ∀ (K1 : D → Prop) (K2 : Prop), (p i = true → K1 (f i)) → (p i = false → K2) → g (.int (i : Nat)) ρ fun ρ2 => tt ρ2 fun b => if b = true then te ρ2 K1 else K2)
    (hl : n ≤ sizeLine) (hP : P (((List.range n).filter p).map f)) : wComp g tt te ρ (rngD 0 (n : Int)) [] P := by
  rw [rng_nat]
  exact wComp_t _ p f _ (fun i hi => h i (List.mem_range.mp hi)) (by simpa using hl) hP
theorem atI_n {ds : List D} {i : Nat} {d : D} (h : ds[i]? = some d) : atI ds (i : Int) = some d := L2.atI_nat h
/-- a for loop by what holds ahead of its turns -/
theorem wFor_inv {g : DG} {body : DS} {E : DEnds} (I : Nat → Env → Prop) : ∀ (ds : List D) (i : Nat) (ρ : Env), I i ρ →
    (∀ j d ρ, ds[j]? = some d → I (i + j) ρ → ∀ k : Env → Prop, (∀ ρ', I (i + j + 1) ρ' → k ρ') → g d ρ fun ρ2 => body { E with nx := k, ct := k, bk := E.nx } ρ2) →
    (∀ ρ, I (i + ds.length) ρ → E.nx ρ) → wFor g body E ds ρ
  | [], i, ρ, h, _, q => q ρ h
  | d :: ds, i, ρ, h, b, q => by
    refine b 0 d ρ rfl h _ fun ρ' h' => ?_
    refine wFor_inv I ds (i + 1) ρ' (by simpa using h') (fun j d ρ hj hI k hk => ?_) (fun ρ hρ => q ρ (by
      rw [List.length_cons]
      have e : i + 1 + ds.length = i + (ds.length + 1) := by omega
      rwa [e] at hρ))
    refine b (j + 1) d ρ hj ?_ k ?_
    · have e : i + 1 + j = i + (j + 1) := by omega
      rwa [e] at hI
    · intro ρ' h2
      refine hk ρ' ?_
      have e : i + 1 + j + 1 = i + (j + 1) + 1 := by omega
      rwa [e]
/-- for k in range(n), by what holds ahead of the turns -/
theorem wFor_rng {g : DG} {body : DS} {E : DEnds} (I : Nat → Env → Prop) (n : Nat) (ρ : Env) (h0 : I 0 ρ)
    (h1 : ∀ i ρ, i < n → I i ρ → ∀ k : Env → Prop, (∀ ρ', I (i + 1) ρ' → k ρ') → g (.int (i : Nat)) ρ fun ρ2 => body { E with nx := k, ct := k, bk := E.nx } ρ2)
    (h2 : ∀ ρ, I n ρ → E.nx ρ) : wFor g body E (rngD 0 (n : Int)) ρ := by
  rw [rng_nat]
  refine wFor_inv I _ 0 ρ h0 (fun j d ρ hj hI k hk => ?_) (fun ρ hρ => h2 ρ (by simpa using hρ))
  rw [List.getElem?_map] at hj
  have hjn : j < n := by
    by_cases c : j < n
    · exact c
    · rw [List.getElem?_eq_none (by simp; omega)] at hj; cases hj
  rw [List.getElem?_eq_getElem (by simpa using hjn)] at hj
  simp only [List.getElem_range, Option.map_some, Option.some.injEq] at hj
  subst hj
  rw [Nat.zero_add] at hI hk
  exact h1 j ρ hjn hI k hk
/-! ### statement by statement, what follows kept small -/
theorem st_set {i : Nat} {f : DE} {u : DS} {E : DEnds} {ρ : Env} (I : D → Prop) (h : ∀ K : D → Prop, (∀ x, I x → K x) → f ρ K) (q : ∀ x, I x → u E (ρ.set i (some (.d x)))) : dSeq (dSet i f) u E ρ := h _ q
theorem st_setL {i : Nat} {ff : DF} {u : DS} {E : DEnds} {ρ : Env} (I : List D → Prop) (h : ∀ K : List D → Prop, (∀ x, I x → K x) → ff ρ K) (q : ∀ x, I x → u E (ρ.set i (some (.d (.list x))))) : dSeq (dSetL i ff) u E ρ := h _ q
theorem st_asg2 {i j : Nat} {f : DE} {u : DS} {E : DEnds} {ρ : Env} (I : D → D → Prop) (h : ∀ K : D → Prop, (∀ x y, I x y → K (.tuple [x, y])) → f ρ K) (q : ∀ x y, I x y → u E ((ρ.set i (some (.d x))).set j (some (.d y)))) :
    dSeq (dAsg f (gTupD 2 (gConsD (gN i) (gConsD (gN j) gNilD)))) u E ρ := h _ fun x y hI => ⟨rfl, rfl, q x y hI⟩
theorem st_par {i j : Nat} {f : DA} {u : DS} {E : DEnds} {ρ : Env} (I : D → D → Prop) (h : ∀ K : List D → Prop, (∀ x y, I x y → K [x, y]) → f ρ K) (q : ∀ x y, I x y → u E ((ρ.set i (some (.d x))).set j (some (.d y)))) :
    dSeq (dPar i j f) u E ρ := h _ fun x y hI => q x y hI
/-- an if that is not taken -/
theorem st_if {c : DT} {t u : DS} {E : DEnds} {ρ : Env} (h : ∀ K : Bool → Prop, K false → c (peek ρ) K) (q : u E ρ) : dSeq (dIfS c t dNext) u E ρ := h _ q
theorem st_if0 {c : DT} {t : DS} {E : DEnds} {ρ : Env} (h : ∀ K : Bool → Prop, K false → c (peek ρ) K) (q : E.nx ρ) : dIfS c t dNext E ρ := h _ q
theorem t_ne {a b : DE} {ρ : Env} {K : Bool → Prop} (I : D → Prop) (h1 : ∀ K : D → Prop, (∀ x, I x → K x) → a ρ K) (h2 : ∀ x, I x → ∀ K : D → Prop, K x → b ρ K) (hd : ∀ x, I x → x.depth ≤ 100 ∧ x.plain = true) (k : K false) : dTest (dOp neD a b) ρ K :=
  h1 _ fun x hx => h2 x hx _ ⟨by have := (hd x hx).1; omega, _, rfl, by rw [eqv_self x (hd x hx).2]; exact k⟩
theorem take_ok (m : Int) (k : Nat) {P : D → Prop} (e : m = (k : Int)) (hk : k < 2 ^ 62) (h : ∀ r : Nat, r < max k 1 → P (.int r)) : wpTake [.st, .d (.int m)] P := by
  subst e
  refine ⟨_, rfl, by omega, fun _ ⟨r, e, r0, r1⟩ => ?_⟩
  subst e
  have := h r.toNat (by omega)
  rwa [Int.toNat_of_nonneg r0] at this
/-! ### sorted -/
theorem allAlike_ints (ns : List Int) : PySem.W.AllAlike (ns.map PyData.int) := fun d hd e he => by
  obtain ⟨a, _, rfl⟩ := List.mem_map.mp hd
  obtain ⟨b, _, rfl⟩ := List.mem_map.mp he
  rfl
theorem sortable_ints (ns : List Int) : PySem.W.Sortable (ns.map PyData.int) := .inr fun d hd => by
  obtain ⟨a, _, rfl⟩ := List.mem_map.mp hd
  exact ⟨(fun e => by cases e), (fun xs e => by cases e)⟩
theorem depth_ints (ns : List Int) : PyData.depthAll (ns.map PyData.int) ≤ 100 := Nat.le_trans (PySem.W.depthAll_map ns) (Nat.zero_le _)
theorem sort_ints (ns : List Int) : (ns.map PyData.int).mergeSort (PySem.W.dataLe false id) = (ns.mergeSort fun a b => decide (a ≤ b)).map PyData.int := by
  refine (List.map_mergeSort fun a _ b _ => ?_).symm
  have := congrFun (congrFun (PySem.W.dataLe_int (β := Int) id) a) b
  exact this.symm
theorem sort_eq {ns ms : List Int} (h : ns.Perm ms) (hs : ms.Pairwise (· ≤ ·)) : (ns.mergeSort fun a b => decide (a ≤ b)) = ms := by
  refine List.Perm.eq_of_pairwise (le := fun a b : Int => a ≤ b) (fun a b _ _ h1 h2 => by omega) ?_ hs ((List.mergeSort_perm ns _).trans h)
  have := List.pairwise_mergeSort (le := fun a b : Int => decide (a ≤ b)) (fun a b c h1 h2 => by simp at *; omega) (fun a b => by simp; omega) ns
  exact this.imp fun h => by simpa using h
theorem size_big {n : Nat} (h : n ≤ 16777216) : n ≤ sizeLine := Nat.le_trans h (by decide)
end Dw

namespace T60
open PySem PySem.Spec PyProof.Rows L2 Dw
def top (i : Nat) : Stmt := PySem.Challenge.pw_votehall_k60_whole_draws_of_an_audit.main.body.getD i (.Pass ⟨0, 0, 0, 0⟩)
abbrev s_is_whole : Stmt := top 1
theorem sc_is_whole : FnScope ["value", "low", "high"] ["value", "low", "high"] (defScope s_is_whole) := ⟨rfl, rfl, rfl, by decide +kernel, rfl, by decide +kernel, by decide +kernel⟩
abbrev s_divisor : Stmt := top 3
theorem sc_divisor : FnScope ["one", "other"] ["one", "other"] (defScope s_divisor) := ⟨rfl, rfl, rfl, by decide +kernel, rfl, by decide +kernel, by decide +kernel⟩
abbrev s_part : Stmt := top 4
theorem sc_part : FnScope ["above", "below", "common"] ["above", "below"] (defScope s_part) := ⟨rfl, rfl, rfl, by decide +kernel, rfl, by decide +kernel, by decide +kernel⟩
abbrev s_plus : Stmt := top 5
theorem sc_plus : FnScope ["one", "other"] ["one", "other"] (defScope s_plus) := ⟨rfl, rfl, rfl, by decide +kernel, rfl, by decide +kernel, by decide +kernel⟩
abbrev s_is_less : Stmt := top 6
theorem sc_is_less : FnScope ["one", "other"] ["one", "other"] (defScope s_is_less) := ⟨rfl, rfl, rfl, by decide +kernel, rfl, by decide +kernel, by decide +kernel⟩
abbrev s_total : Stmt := top 7
theorem sc_total : FnScope ["row", "found", "one"] ["row"] (defScope s_total) := ⟨rfl, rfl, rfl, by decide +kernel, rfl, by decide +kernel, by decide +kernel⟩
abbrev s_choices : Stmt := top 10
theorem sc_choices : FnScope ["many", "some", "found", "k"] ["many", "some"] (defScope s_choices) := ⟨rfl, rfl, rfl, by decide +kernel, rfl, by decide +kernel, by decide +kernel⟩
abbrev s_chance_of_none : Stmt := top 11
theorem sc_chance_of_none : FnScope ["many", "wrong", "draws"] ["many", "wrong", "draws"] (defScope s_chance_of_none) := ⟨rfl, rfl, rfl, by decide +kernel, rfl, by decide +kernel, by decide +kernel⟩
abbrev s_chance_of : Stmt := top 12
theorem sc_chance_of : FnScope ["many", "wrong", "draws", "seen"] ["many", "wrong", "draws", "seen"] (defScope s_chance_of) := ⟨rfl, rfl, rfl, by decide +kernel, rfl, by decide +kernel, by decide +kernel⟩
abbrev s_draws_needed : Stmt := top 13
theorem sc_draws_needed : FnScope ["many", "wrong", "limit", "low", "high", "middle"] ["many", "wrong", "limit"] (defScope s_draws_needed) := ⟨rfl, rfl, rfl, by decide +kernel, rfl, by decide +kernel, by decide +kernel⟩
abbrev s_wrong_needed : Stmt := top 14
theorem sc_wrong_needed : FnScope ["margin"] ["margin"] (defScope s_wrong_needed) := ⟨rfl, rfl, rfl, by decide +kernel, rfl, by decide +kernel, by decide +kernel⟩
abbrev s_risk : Stmt := top 15
theorem sc_risk : FnScope ["many", "margin", "draws"] ["many", "margin", "draws"] (defScope s_risk) := ⟨rfl, rfl, rfl, by decide +kernel, rfl, by decide +kernel, by decide +kernel⟩
abbrev s_is_limit : Stmt := top 16
theorem sc_is_limit : FnScope ["value", "one"] ["value"] (defScope s_is_limit) := ⟨rfl, rfl, rfl, by decide +kernel, rfl, by decide +kernel, by decide +kernel⟩
abbrev s_drawn : Stmt := top 17
theorem sc_drawn : FnScope ["seed", "many", "draws", "found", "now", "place"] ["seed", "many", "draws"] (defScope s_drawn) := ⟨rfl, rfl, rfl, by decide +kernel, rfl, by decide +kernel, by decide +kernel⟩
abbrev s__law_state : Stmt := top 19
theorem sc__law_state : FnScope ["script", "cells", "cell"] ["script"] (defScope s__law_state) := ⟨rfl, rfl, rfl, by decide +kernel, rfl, by decide +kernel, by decide +kernel⟩
abbrev s__law_take : Stmt := top 20
theorem sc__law_take : FnScope ["state", "most", "cells", "at", "cell", "mixed"] ["state", "most"] (defScope s__law_take) := ⟨rfl, rfl, rfl, by decide +kernel, rfl, by decide +kernel, by decide +kernel⟩
abbrev s__law_pick : Stmt := top 21
theorem sc__law_pick : FnScope ["state", "row"] ["state", "row"] (defScope s__law_pick) := ⟨rfl, rfl, rfl, by decide +kernel, rfl, by decide +kernel, by decide +kernel⟩
abbrev s__law_lots : Stmt := top 22
theorem sc__law_lots : FnScope ["many", "size", "rows", "one", "row"] ["many", "size"] (defScope s__law_lots) := ⟨rfl, rfl, rfl, by decide +kernel, rfl, by decide +kernel, by decide +kernel⟩
abbrev s__law_choices : Stmt := top 23
theorem sc__law_choices : FnScope ["many", "some", "row", "turn", "k"] ["many", "some"] (defScope s__law_choices) := ⟨rfl, rfl, rfl, by decide +kernel, rfl, by decide +kernel, by decide +kernel⟩
abbrev s__law_drawn : Stmt := top 24
theorem sc__law_drawn : FnScope ["seed", "many", "draws", "found", "now"] ["seed", "many", "draws"] (defScope s__law_drawn) := ⟨rfl, rfl, rfl, by decide +kernel, rfl, by decide +kernel, by decide +kernel⟩
abbrev s_law : Stmt := top 25
theorem sc_law : FnScope ["script", "state", "turn", "many", "wrong", "draws", "lots", "counts", "a", "b", "below", "limit", "great", "bad", "need", "margin", "least", "seed", "places", "told", "odd", "seen", "number", "w", "lot", "n", "one"] ["script"] (defScope s_law) := ⟨rfl, rfl, rfl, by decide +kernel, rfl, by decide +kernel, by decide +kernel⟩
structure Tx (K : PySem.W.Frag) (mg : Str → Option Value) where
  fd_is_whole : FuncData
  F_is_whole : FunD K "is_whole" "is_whole" (defArgs s_is_whole) (defBody s_is_whole) (defScope s_is_whole) [] [] (He.ga K "is_whole") fd_is_whole
  m_is_whole : mg "is_whole" = some (.ref (He.ga K "is_whole"))
  b_is_whole : Binds K fd_is_whole ["value", "low", "high"] []
  fd_divisor : FuncData
  F_divisor : FunD K "divisor" "divisor" (defArgs s_divisor) (defBody s_divisor) (defScope s_divisor) [] [] (He.ga K "divisor") fd_divisor
  m_divisor : mg "divisor" = some (.ref (He.ga K "divisor"))
  b_divisor : Binds K fd_divisor ["one", "other"] []
  fd_part : FuncData
  F_part : FunD K "part" "part" (defArgs s_part) (defBody s_part) (defScope s_part) [] [] (He.ga K "part") fd_part
  m_part : mg "part" = some (.ref (He.ga K "part"))
  b_part : Binds K fd_part ["above", "below"] []
  fd_plus : FuncData
  F_plus : FunD K "plus" "plus" (defArgs s_plus) (defBody s_plus) (defScope s_plus) [] [] (He.ga K "plus") fd_plus
  m_plus : mg "plus" = some (.ref (He.ga K "plus"))
  b_plus : Binds K fd_plus ["one", "other"] []
  fd_is_less : FuncData
  F_is_less : FunD K "is_less" "is_less" (defArgs s_is_less) (defBody s_is_less) (defScope s_is_less) [] [] (He.ga K "is_less") fd_is_less
  m_is_less : mg "is_less" = some (.ref (He.ga K "is_less"))
  b_is_less : Binds K fd_is_less ["one", "other"] []
  fd_total : FuncData
  F_total : FunD K "total" "total" (defArgs s_total) (defBody s_total) (defScope s_total) [] [] (He.ga K "total") fd_total
  m_total : mg "total" = some (.ref (He.ga K "total"))
  b_total : Binds K fd_total ["row"] []
  fd_choices : FuncData
  F_choices : FunD K "choices" "choices" (defArgs s_choices) (defBody s_choices) (defScope s_choices) [] [] (He.ga K "choices") fd_choices
  m_choices : mg "choices" = some (.ref (He.ga K "choices"))
  b_choices : Binds K fd_choices ["many", "some"] []
  fd_chance_of_none : FuncData
  F_chance_of_none : FunD K "chance_of_none" "chance_of_none" (defArgs s_chance_of_none) (defBody s_chance_of_none) (defScope s_chance_of_none) [] [] (He.ga K "chance_of_none") fd_chance_of_none
  m_chance_of_none : mg "chance_of_none" = some (.ref (He.ga K "chance_of_none"))
  b_chance_of_none : Binds K fd_chance_of_none ["many", "wrong", "draws"] []
  fd_chance_of : FuncData
  F_chance_of : FunD K "chance_of" "chance_of" (defArgs s_chance_of) (defBody s_chance_of) (defScope s_chance_of) [] [] (He.ga K "chance_of") fd_chance_of
  m_chance_of : mg "chance_of" = some (.ref (He.ga K "chance_of"))
  b_chance_of : Binds K fd_chance_of ["many", "wrong", "draws", "seen"] []
  fd_draws_needed : FuncData
  F_draws_needed : FunD K "draws_needed" "draws_needed" (defArgs s_draws_needed) (defBody s_draws_needed) (defScope s_draws_needed) [] [] (He.ga K "draws_needed") fd_draws_needed
  m_draws_needed : mg "draws_needed" = some (.ref (He.ga K "draws_needed"))
  b_draws_needed : Binds K fd_draws_needed ["many", "wrong", "limit"] []
  fd_wrong_needed : FuncData
  F_wrong_needed : FunD K "wrong_needed" "wrong_needed" (defArgs s_wrong_needed) (defBody s_wrong_needed) (defScope s_wrong_needed) [] [] (He.ga K "wrong_needed") fd_wrong_needed
  m_wrong_needed : mg "wrong_needed" = some (.ref (He.ga K "wrong_needed"))
  b_wrong_needed : Binds K fd_wrong_needed ["margin"] []
  fd_risk : FuncData
  F_risk : FunD K "risk" "risk" (defArgs s_risk) (defBody s_risk) (defScope s_risk) [] [] (He.ga K "risk") fd_risk
  m_risk : mg "risk" = some (.ref (He.ga K "risk"))
  b_risk : Binds K fd_risk ["many", "margin", "draws"] []
  fd_is_limit : FuncData
  F_is_limit : FunD K "is_limit" "is_limit" (defArgs s_is_limit) (defBody s_is_limit) (defScope s_is_limit) [] [] (He.ga K "is_limit") fd_is_limit
  m_is_limit : mg "is_limit" = some (.ref (He.ga K "is_limit"))
  b_is_limit : Binds K fd_is_limit ["value"] []
  fd_drawn : FuncData
  F_drawn : FunD K "drawn" "drawn" (defArgs s_drawn) (defBody s_drawn) (defScope s_drawn) [] [] (He.ga K "drawn") fd_drawn
  m_drawn : mg "drawn" = some (.ref (He.ga K "drawn"))
  b_drawn : Binds K fd_drawn ["seed", "many", "draws"] []
  fd__law_state : FuncData
  F__law_state : FunD K "_law_state" "_law_state" (defArgs s__law_state) (defBody s__law_state) (defScope s__law_state) [] [] (He.ga K "_law_state") fd__law_state
  m__law_state : mg "_law_state" = some (.ref (He.ga K "_law_state"))
  b__law_state : Binds K fd__law_state ["script"] []
  fd__law_take : FuncData
  F__law_take : FunD K "_law_take" "_law_take" (defArgs s__law_take) (defBody s__law_take) (defScope s__law_take) [] [] (He.ga K "_law_take") fd__law_take
  m__law_take : mg "_law_take" = some (.ref (He.ga K "_law_take"))
  b__law_take : Binds K fd__law_take ["state", "most"] []
  fd__law_pick : FuncData
  F__law_pick : FunD K "_law_pick" "_law_pick" (defArgs s__law_pick) (defBody s__law_pick) (defScope s__law_pick) [] [] (He.ga K "_law_pick") fd__law_pick
  m__law_pick : mg "_law_pick" = some (.ref (He.ga K "_law_pick"))
  b__law_pick : Binds K fd__law_pick ["state", "row"] []
  fd__law_lots : FuncData
  F__law_lots : FunD K "_law_lots" "_law_lots" (defArgs s__law_lots) (defBody s__law_lots) (defScope s__law_lots) [] [] (He.ga K "_law_lots") fd__law_lots
  m__law_lots : mg "_law_lots" = some (.ref (He.ga K "_law_lots"))
  b__law_lots : Binds K fd__law_lots ["many", "size"] []
  fd__law_choices : FuncData
  F__law_choices : FunD K "_law_choices" "_law_choices" (defArgs s__law_choices) (defBody s__law_choices) (defScope s__law_choices) [] [] (He.ga K "_law_choices") fd__law_choices
  m__law_choices : mg "_law_choices" = some (.ref (He.ga K "_law_choices"))
  b__law_choices : Binds K fd__law_choices ["many", "some"] []
  fd__law_drawn : FuncData
  F__law_drawn : FunD K "_law_drawn" "_law_drawn" (defArgs s__law_drawn) (defBody s__law_drawn) (defScope s__law_drawn) [] [] (He.ga K "_law_drawn") fd__law_drawn
  m__law_drawn : mg "_law_drawn" = some (.ref (He.ga K "_law_drawn"))
  b__law_drawn : Binds K fd__law_drawn ["seed", "many", "draws"] []
  fd_law : FuncData
  F_law : FunD K "law" "law" (defArgs s_law) (defBody s_law) (defScope s_law) [] [] (He.ga K "law") fd_law
  m_law : mg "law" = some (.ref (He.ga K "law"))
  b_law : Binds K fd_law ["script"] []
  i_MOST_BALLOTS : ∃ t, mg "MOST_BALLOTS" = some (.int 1000000 t)
  z_abs : mg "abs" = none
  z_all : mg "all" = none
  z_bool : mg "bool" = none
  z_int : mg "int" = none
  z_isinstance : mg "isinstance" = none
  z_len : mg "len" = none
  z_list : mg "list" = none
  z_min : mg "min" = none
  z_range : mg "range" = none
  z_set : mg "set" = none
  z_sorted : mg "sorted" = none
  z_tuple : mg "tuple" = none
section
variable {P : Program} {w : World} {K : PySem.W.Frag} {mg : Str → Option Value} {base : Heap}
def rd_is_whole : DS :=
  dRet (dAndV (dIsi PyData.isInt (dVar 0)) (dAndV (dNotV (dIsi PyData.isBool (dVar 0))) (dChain leD leD (dVar 1) (dVar 0) (dVar 2))))
def wp_is_whole : Sd := wpOf 3 rd_is_whole
set_option maxHeartbeats 4000000 in
theorem ok_is_whole (T : Tx K mg) : FnOk P w K mg base CX0 1 (He.ga K "is_whole") T.fd_is_whole ["value", "low", "high"] (spD K 3 wp_is_whole) := fn_dataD T.F_is_whole sc_is_whole fun cdv A outer s H E hr => by
  have hu := hu_room hr
  have hu1 := hu1_room hr
  exact qss_one (qs_ret (qe_and (qe_isi kT_int (by rfl) T.z_isinstance (by rfl) T.z_int (by decide +kernel) (by decide) (by decide) (qv 0)) (qe_and (qe_not (qe_isi kT_bool (by rfl) T.z_isinstance (by rfl) T.z_bool (by decide +kernel) (by decide) (by decide) (qv 0))) (qe_one (qe_chain (od_le hu1) (od_le hu1) (qv 1) (qv 0) (qv 2))))))
def rd_divisor : DS :=
  dSeq (dPar 0 1 (dCons (dCB absD (dCons (dVar 0) (dNil))) (dCons (dCB absD (dCons (dVar 1) (dNil))) (dNil))))
  (dSeq (dWhile (dTest (dOp neD (dVar 1) (dC (.int 0)))) (dPar 0 1 (dCons (dVar 1) (dCons (dOp modD (dVar 0) (dVar 1)) (dNil)))))
  (dRet (dVar 0)))
def wp_divisor : Sd := wpOf 2 rd_divisor
set_option maxHeartbeats 4000000 in
theorem ok_divisor (T : Tx K mg) : FnOk P w K mg base CX0 1 (He.ga K "divisor") T.fd_divisor ["one", "other"] (spD K 2 wp_divisor) := fn_dataD T.F_divisor sc_divisor fun cdv A outer s H E hr => by
  have hu := hu_room hr
  have hu1 := hu1_room hr
  exact qss_cons (qs_par (i := 0) (j := 1) (by rfl) sc_divisor.nd rfl rfl (by decide) rfl rfl (qa_cons (qe_callB cd_abs (by rfl) T.z_abs (by decide +kernel) (qa_cons (qv 0) (qa_nil))) (qa_cons (qe_callB cd_abs (by rfl) T.z_abs (by decide +kernel) (qa_cons (qv 1) (qa_nil))) (qa_nil))) (by rfl))
      (qss_cons (qs_while PassesOwn.never (qt_cmp (od_ne hu1) (qv 1) (qe_int) (nomark _)) (qss_one (qs_par (i := 0) (j := 1) (by rfl) sc_divisor.nd rfl rfl (by decide) rfl rfl (qa_cons (qv 1) (qa_cons (qe_op od_mod (qv 0) (qv 1)) (qa_nil))) (by rfl))))
      (qss_one (qs_ret (qv 0))))
def rd_is_less : DS :=
  dRet (dOp ltD (dOp mulD (dOp ixD (dVar 0) (dC (.int 0))) (dOp ixD (dVar 1) (dC (.int 1)))) (dOp mulD (dOp ixD (dVar 1) (dC (.int 0))) (dOp ixD (dVar 0) (dC (.int 1)))))
def wp_is_less : Sd := wpOf 2 rd_is_less
set_option maxHeartbeats 4000000 in
theorem ok_is_less (T : Tx K mg) : FnOk P w K mg base CX0 1 (He.ga K "is_less") T.fd_is_less ["one", "other"] (spD K 2 wp_is_less) := fn_dataD T.F_is_less sc_is_less fun cdv A outer s H E hr => by
  have hu := hu_room hr
  have hu1 := hu1_room hr
  exact qss_one (qs_ret (qe_cmp (od_lt hu1) (qe_op od_mul (qe_ix (qv 0) (qe_int) (fun _ _ => rfl)) (qe_ix (qv 1) (qe_int) (fun _ _ => rfl))) (qe_op od_mul (qe_ix (qv 1) (qe_int) (fun _ _ => rfl)) (qe_ix (qv 0) (qe_int) (fun _ _ => rfl))) (nomark _)))
def rd_choices : DS :=
  dSeq (dIfS (dOr (dTest (dOp ltD (dVar 1) (dC (.int 0)))) (dTest (dOp gtD (dVar 1) (dVar 0)))) (dRet (dC (.int 0))) (dNext))
  (dSeq (dSet 2 (dC (.int 1)))
  (dSeq (dFor (dRng1 (dCB min2D (dCons (dVar 1) (dCons (dOp subD (dVar 0) (dVar 1)) (dNil))))) (gN 3) (dSet 2 (dOp fdivD (dOp mulD (dVar 2) (dOp subD (dVar 0) (dVar 3))) (dOp addD (dVar 3) (dC (.int 1))))))
  (dRet (dVar 2))))
def wp_choices : Sd := wpOf 4 rd_choices
set_option maxHeartbeats 4000000 in
theorem ok_choices (T : Tx K mg) : FnOk P w K mg base CX0 1 (He.ga K "choices") T.fd_choices ["many", "some"] (spD K 2 wp_choices) := fn_dataD T.F_choices sc_choices fun cdv A outer s H E hr => by
  have hu := hu_room hr
  have hu1 := hu1_room hr
  exact qss_cons (qs_if ((qw_or (qt_cmp (od_lt hu1) (qv 1) (qe_int) (nomark _)) (qw_or1 (qt_cmp (od_gt hu1) (qv 1) (qv 0) (nomark _)))).qt) (qss_one (qs_ret (qe_int))) (qss_nil))
      (qss_cons (qs_set (i := 2) sc_choices.nd rfl (by first | exact Or.inl rfl | exact Or.inr rfl) (qe_int))
      (qss_cons (qs_for PassesOwn.never (by rfl) (qi_rng1 (by rfl) T.z_range (qe_callB (cd_min2 (by rfl)) (by rfl) T.z_min (by decide +kernel) (qa_cons (qv 1) (qa_cons (qe_op od_sub (qv 0) (qv 1)) (qa_nil))))) (qg_name (i := 3) sc_choices.nd rfl (by first | exact Or.inl rfl | exact Or.inr rfl)) (qss_one (qs_set (i := 2) sc_choices.nd rfl (by first | exact Or.inl rfl | exact Or.inr rfl) (qe_op od_fdiv (qe_op od_mul (qv 2) (qe_op od_sub (qv 0) (qv 3))) (qe_op od_add (qv 3) (qe_int))))))
      (qss_one (qs_ret (qv 2)))))
def rd_wrong_needed : DS :=
  dRet (dOp fdivD (dOp addD (dVar 0) (dC (.int 1))) (dC (.int 2)))
def wp_wrong_needed : Sd := wpOf 1 rd_wrong_needed
set_option maxHeartbeats 4000000 in
theorem ok_wrong_needed (T : Tx K mg) : FnOk P w K mg base CX0 1 (He.ga K "wrong_needed") T.fd_wrong_needed ["margin"] (spD K 1 wp_wrong_needed) := fn_dataD T.F_wrong_needed sc_wrong_needed fun cdv A outer s H E hr => by
  have hu := hu_room hr
  have hu1 := hu1_room hr
  exact qss_one (qs_ret (qe_op od_fdiv (qe_op od_add (qv 0) (qe_int)) (qe_int)))
def rd_drawn : DS :=
  dSeq (dParM 3 4 (mConsF (fLst (dNil)) (mConsD (dVar 0) (mNil))))
  (dSeq (dWhile (dTest (dOp ltD (dCB lenD (dCons (dVar 3) (dNil))) (dCB min2D (dCons (dVar 2) (dCons (dVar 1) (dNil)))))) (dSeq (dSet 4 (dOp modD (dCB intD (dCons (dOp mulD (dVar 4) (dC (.int 48271))) (dNil))) (dC (.int 2147483647))))
  (dSeq (dSet 5 (dOp modD (dCB intD (dCons (dVar 4) (dNil))) (dVar 1)))
  (dIfS (dTest (dOp ninD (dVar 5) (dVar 3))) (dApp 3 (dVar 5)) (dNext)))))
  (dRet (dCB tupleD (dCons (dVar 3) (dNil)))))
def wp_drawn : Sd := wpOf 6 rd_drawn
set_option maxHeartbeats 4000000 in
theorem ok_drawn (T : Tx K mg) : FnOk P w K mg base CX0 1 (He.ga K "drawn") T.fd_drawn ["seed", "many", "draws"] (spD K 3 wp_drawn) := fn_dataD T.F_drawn sc_drawn fun cdv A outer s H E hr => by
  have hu := hu_room hr
  have hu1 := hu1_room hr
  exact qss_cons (qs_parM (i := 3) (j := 4) (by rfl) sc_drawn.nd rfl rfl (by decide) rfl rfl (qm_consF (qf_lst (qa_nil)) (qm_consD (qv 0) (qm_nil))) (by rfl))
      (qss_cons (qs_while PassesOwn.never (qt_cmp (od_lt hu1) (qe_callB cd_len (by rfl) T.z_len (by decide +kernel) (qa_cons (qv 3) (qa_nil))) (qe_callB (cd_min2 (by rfl)) (by rfl) T.z_min (by decide +kernel) (qa_cons (qv 2) (qa_cons (qv 1) (qa_nil)))) (nomark _)) (qss_cons (qs_set (i := 4) sc_drawn.nd rfl (by first | exact Or.inl rfl | exact Or.inr rfl) (qe_op od_mod (qe_callTy cd_int (by rfl) T.z_int (by decide +kernel) (qa_cons (qe_op od_mul (qv 4) (qe_int)) (qa_nil))) (qe_int)))
      (qss_cons (qs_set (i := 5) sc_drawn.nd rfl (by first | exact Or.inl rfl | exact Or.inr rfl) (qe_op od_mod (qe_callTy cd_int (by rfl) T.z_int (by decide +kernel) (qa_cons (qv 4) (qa_nil))) (qv 1)))
      (qss_one (qs_if (qt_cmp (od_nin hu) (qv 5) (qv 3) (by with_unfolding_all rfl)) (qss_one (qs_app (i := 3) (qv 5))) (qss_nil))))))
      (qss_one (qs_ret (qe_callTy cd_tuple (by rfl) T.z_tuple (by decide +kernel) (qa_cons (qv 3) (qa_nil))))))
set_option maxHeartbeats 4000000 in
theorem ok__law_state (T : Tx K mg) : FnOk P w K mg base CX0 1 (He.ga K "_law_state") T.fd__law_state ["script"] (spState K) := by
  refine T.F__law_state.ok sc__law_state (fun vs H Q E ⟨s, ns, e, _⟩ => by rw [e]; rfl) (fun cdv A outer s H vs Q E hr h => ⟨_, PSs.nox
    (pss_cons (ps_setLc (i := 1) (own := [("cell", 2)]) (by rfl) sc__law_state.nd rfl rfl (sw_true rfl rfl rfl (by decide +kernel)) (pi_list (pe_slice sl_list (pv 0) po_none (po_some pe_int))) (blkOk_by (by kernel_rfl))
      (fun _ _ _ _ _ => pg_name (i := 2) sc__law_state.nd rfl (by first | exact Or.inl rfl | exact Or.inr rfl)) (fun _ _ _ _ _ => pts_nil) (fun _ _ _ _ _ => pe_callB call_abs (by rfl) T.z_abs (by decide +kernel) (pa_cons (pv 2) pa_nil)))
    (pss_cons (ps_if (pt_cmpR op_eq (pe_callB call_len_seq (by rfl) T.z_len (by decide +kernel) (pa_cons (pv 1) pa_nil)) pe_int (nomark _)) (pss_one (ps_set (i := 1) sc__law_state.nd rfl (by first | exact Or.inl rfl | exact Or.inr rfl) (pe_lst (pa_cons pe_int pa_nil)))) pss_nil)
    (pss_one (ps_ret (pe_lst (pa_cons pe_int (pa_cons (pv 1) pa_nil))))))), ?_⟩)
  obtain ⟨a, ns, rfl, hs, hl, q⟩ := h
  have hcut : cutV (ns.map V.int) none (some 63) = ns.map V.int := by
    have e1 : HT.sIx (ns.map V.int).length (ns.map V.int).length (some 63) = (ns.map V.int).length := by
      refine (HT.sIx_nat _ _ 63).trans ?_
      rw [List.length_map]; omega
    unfold cutV
    rw [HT.sIx_none, e1, Nat.sub_zero, List.drop_zero]
    exact List.take_length
  let ca : Int → Int := fun i => if i < 0 then -i else i
  refine ⟨.ref a, rfl, 63, rfl, a, ns.map V.int, rfl, hs, fun p hp => ⟨p, rfl, ⟨_, SqL.of upd_same⟩, fun D hD => ?_⟩⟩
  rw [hcut] at hD
  rw [hcut]
  have hDp : D ≠ p := by
    rintro rfl
    rw [upd_same] at hD; cases hD
  have hDH : H D = none := by rw [upd_ne hDp] at hD; exact hD
  refine ⟨fun i m H' => i ≤ ns.length ∧ m = ns.length - i ∧ H' = upd (upd H p (.lst (ns.map V.int))) D (.lst ((ns.take i).map fun x => V.int (ca x))), ⟨_, Nat.zero_le _, rfl, by simp⟩, fun i m H' ⟨hi, hm, hH⟩ => ?_⟩
  have hsp : SqL K H' p (ns.map V.int) := SqL.of (by rw [hH, upd_ne (Ne.symm hDp), upd_same])
  have hDl : H' D = some (.lst ((ns.take i).map fun x => V.int (ca x))) := by rw [hH, upd_same]
  by_cases he : i = ns.length
  · refine .inl ⟨⟨_, hsp, by rw [List.length_map]; omega⟩, ?_⟩
    have hDl : H' D = some (.lst ((ns.map ca).map V.int)) := by
      rw [hDl, he, List.take_length, List.map_map]; rfl
    have hfr : ∀ b, H' b = none → H b = none := fun b hb => by
      rw [hH] at hb
      have b1 : b ≠ D := by rintro rfl; rw [upd_same] at hb; cases hb
      rw [upd_ne b1] at hb
      have b2 : b ≠ p := by rintro rfl; rw [upd_same] at hb; cases hb
      rwa [upd_ne b2] at hb
    have hsm : Same H H' := by
      rw [hH]
      exact fun b o e => by
        have b1 : b ≠ D := by rintro rfl; rw [hDH] at e; cases e
        have b2 : b ≠ p := by rintro rfl; rw [hp] at e; cases e
        rw [upd_ne b1, upd_ne b2]; exact e
    have hn0 : ∀ n ∈ ns.map ca, 0 ≤ n := fun n hn => by
      obtain ⟨x, _, rfl⟩ := List.mem_map.mp hn
      show 0 ≤ if x < 0 then -x else x
      split <;> omega
    -- the pair is made
    have fin : ∀ (H2 : Hp) (c : Addr) (ms : List Int), Same H H2 → (∀ b, H2 b = none → H b = none) → H c = none → H2 c = some (.lst (ms.map V.int)) → ms ≠ [] → (∀ n ∈ ms, 0 ≤ n) → ms.length ≤ 63 → ∀ b, H2 b = none → Q (.ref b) (upd H2 b (.lst [V.int 0, V.ref c])) := fun H2 c ms s1 s2 h0 h1 h2 h3 h4 b hb => by
      have hbc : c ≠ b := by rintro rfl; rw [h1] at hb; cases hb
      refine q b c _ (s2 b hb) h0 ?_ ⟨0, ms, Int.le_refl 0, h2, h3, h4, upd_same, by rw [upd_ne hbc]; exact h1⟩
      exact fun x o e => by
        have : x ≠ b := by rintro rfl; rw [s2 x hb] at e; cases e
        rw [upd_ne this]; exact s1 x o e
    refine ⟨_, rfl, D, _, rfl, .inl (SqL.of hDl), rfl, _, rfl, ite2 (fun h1 => ?_) (fun h1 => ?_)⟩
    · have h1 : V.int ((((ns.map ca).map V.int).length : Nat) : Int) = V.int 0 := of_decide_eq_true h1
      refine ⟨show 1 ≤ sizeLine by decide, fun c hc => ⟨.ref c, rfl, show 2 ≤ sizeLine by decide, fun b hb => ?_⟩⟩
      refine fin (upd H' c (.lst [V.int 0])) c [0] ?_ ?_ (hfr c hc) upd_same (by decide) (by decide) (by decide) b hb
      · exact fun x o e => by
          have : x ≠ c := by rintro rfl; rw [hfr x hc] at e; cases e
          rw [upd_ne this]; exact hsm x o e
      · intro x hx
        have : x ≠ c := by rintro rfl; rw [upd_same] at hx; cases hx
        rw [upd_ne this] at hx; exact hfr x hx
    · have h1 : V.int ((((ns.map ca).map V.int).length : Nat) : Int) ≠ V.int 0 := fun z => h1 (decide_eq_true z)
      refine ⟨.ref D, rfl, show 2 ≤ sizeLine by decide, fun b hb => ?_⟩
      refine fin H' D (ns.map ca) hsm hfr hDH hDl ?_ hn0 (by rw [List.length_map]; exact hl) b hb
      intro z
      rw [z] at h1
      exact h1 rfl
  · have hi2 : i < ns.length := by omega
    refine .inr ⟨⟨_, .int ns[i], hsp, by rw [List.getElem?_map, List.getElem?_eq_getElem hi2]; rfl⟩, fun H2 => i + 1 ≤ ns.length ∧ H2 = upd (upd H p (.lst (ns.map V.int))) D (.lst ((ns.take (i + 1)).map fun x => V.int (ca x))), fun H2 ⟨a1, a2⟩ => ⟨_, ?_, a1, rfl, a2⟩, fun x H2 ⟨e, hx⟩ => ?_⟩
    · omega
    · subst e
      have hx := (hx _ hsp).symm.trans (show (ns.map V.int)[i]? = some (.int ns[i]) by rw [List.getElem?_map, List.getElem?_eq_getElem hi2]; rfl)
      cases hx
      refine ⟨rfl, .int ns[i], rfl, ns[i], rfl, _, hDl, by rw [List.length_map, List.length_take]; exact Nat.lt_of_le_of_lt (Nat.min_le_right _ _) (Nat.lt_of_le_of_lt hl (by decide)), hi2, ?_⟩
      rw [hH, upd_upd]
      congr 2
      rw [List.take_succ, List.getElem?_eq_getElem hi2, List.map_append]
      rfl

def wp__law_take : Sd := wpTake
theorem sh_take (m : Int) (hm : 2 ≤ m) (z : Int) : 0 ≤ z % m ∧ z % m < max m 1 := by
  have h1 := Int.emod_nonneg z (show m ≠ 0 by omega)
  have h2 := Int.emod_lt_of_pos z (show 0 < m by omega)
  omega
set_option maxHeartbeats 4000000 in
theorem ok__law_take (T : Tx K mg) : FnOk P w K mg base CX0 1 (He.ga K "_law_take") T.fd__law_take ["state", "most"] (spD K 2 wp__law_take) := by
  refine T.F__law_take.ok sc__law_take (fun vs H Q E h => h.1) (fun cdv A outer s H vs Q E hr h => ⟨_, PSs.nox
    (pss_cons (ps_if (pt_cmpR op_lt (pv 1) pe_int (nomark _)) (pss_one (ps_ret pe_int)) pss_nil)
    (pss_cons (ps_set (i := 2) sc__law_take.nd rfl (.inl rfl) (pe_ix ix_list (pv 0) pe_int (fun _ _ => rfl)))
    (pss_cons (ps_set (i := 3) sc__law_take.nd rfl (.inl rfl) (pe_op op_mod (pe_callTy call_int1 (by rfl) T.z_int (by decide +kernel) (pa_cons (pe_ix ix_list (pv 0) pe_int (fun _ _ => rfl)) pa_nil)) (pe_callB call_len_seq (by rfl) T.z_len (by decide +kernel) (pa_cons (pv 2) pa_nil))))
    (pss_cons (ps_set (i := 4) sc__law_take.nd rfl (.inl rfl) (pe_ix ix_list (pv 2) (pv 3) (fun _ _ => rfl)))
    (pss_cons (ps_if (pt_cmpR op_ge (pv 4) pe_int (nomark _)) (pss_cons (ps_asg (pe_op op_fdivW (pv 4) (pv 1)) (pg_sub (pv 2) (pv 3) set_list)) (pss_one (ps_ret (pe_op op_mod (pe_callTy call_int1 (by rfl) T.z_int (by decide +kernel) (pa_cons (pv 4) pa_nil)) (pv 1))))) pss_nil)
    (pss_cons (ps_asg (pe_op op_add (pe_ix ix_list (pv 0) pe_int (fun _ _ => rfl)) pe_int) (pg_sub (pv 0) pe_int set_list))
    (pss_cons (ps_set (i := 5) sc__law_take.nd rfl (.inl rfl) (pe_op op_mod (pe_callTy call_int1 (by rfl) T.z_int (by decide +kernel) (pa_cons (pe_op op_add (pe_op op_mul (pv 4) pe_int) (pe_op op_mul (pe_ix ix_list (pv 0) pe_int (fun _ _ => rfl)) pe_int)) pa_nil)) pe_int))
    (pss_cons (ps_set (i := 5) sc__law_take.nd rfl (.inl rfl) (pe_op op_mod (pe_callTy call_int1 (by rfl) T.z_int (by decide +kernel) (pa_cons (pe_op op_add (pe_op op_mul (pv 5) pe_int) (pe_op op_mul (pe_ix ix_list (pv 0) pe_int (fun _ _ => rfl)) pe_int)) pa_nil)) pe_int))
    (pss_one (ps_ret (pe_op op_mod (pe_callTy call_int1 (by rfl) T.z_int (by decide +kernel) (pa_cons (pe_op op_fdiv (pv 5) pe_int) pa_nil)) (pv 1)))))))))))), ?_⟩)
  obtain ⟨hl, w, es, P, r, er, ⟨m, rfl, hm, hw0⟩, q⟩ := h
  have hw : ∀ r : Int, 0 ≤ r → r < max m 1 → P (.int r) := fun r a b => hw0 _ ⟨r, rfl, a, b⟩
  cases er with
  | cons e1 er =>
    cases er with
    | cons e2 er =>
      cases er
      obtain ⟨rfl, sw⟩ := e1
      rename_i v2
      have e2 : v2 = V.int m := Rp.int_inv e2
      subst e2
      obtain ⟨c, i, ns, ok, ma, mc, f1, f2⟩ := sw.get H r
      -- what a step of ours gives
      have fin : ∀ (z : Int) (H' : Hp), 2 ≤ m → w.R H' → (∀ b, b ∉ w.Z → H' b = H b) → Q (.int (z % m)) H' := fun z H' h2 hR hs =>
        q _ _ _ (hw _ (sh_take m h2 z).1 (sh_take m h2 z).2) ⟨fun b o e => by
          rw [off_some] at e ⊢
          exact ⟨e.1, by rw [hs b e.1]; exact e.2⟩, hR⟩ (.int _)
      refine ⟨.int m, rfl, m, 2, rfl, rfl, _, rfl, ite2 (fun h2 => ?_) (fun h2 => ?_)⟩
      · have h2 : m < 2 := of_decide_eq_true h2
        exact q _ _ _ (hw 0 (by omega) (by omega)) (Stp.refl r) (.int 0)
      · have h2 : 2 ≤ m := by
          have : ¬ m < 2 := fun z => h2 (decide_eq_true z)
          omega
        have hne : 0 < ns.length := by
          cases ns with
          | nil => exact absurd rfl ok.ne
          | cons a b => simp
        have hk := Int.emod_nonneg i (show (ns.length : Int) ≠ 0 by omega)
        have hk2 := Int.emod_lt_of_pos i (show (0 : Int) < ns.length by omega)
        have hlm : (ns.map V.int).length = ns.length := List.length_map ..
        obtain ⟨j, hj⟩ : ∃ j : Nat, i % (ns.length : Int) = j := ⟨(i % (ns.length : Int)).toNat, by omega⟩
        have hjl : j < ns.length := by omega
        have hget : (ns.map V.int)[j]? = some (.int ns[j]) := by rw [List.getElem?_map, List.getElem?_eq_getElem hjl]; rfl
        have hn0 : 0 ≤ ns[j] := ok.n0 _ (List.getElem_mem hjl)
        have at0 : atI [V.int i, V.ref c] 0 = some (V.int i) := atI_nat (j := 0) rfl
        have at1 : atI [V.int i, V.ref c] 1 = some (V.ref c) := atI_nat (j := 1) rfl
        have hac := ok.ac
        refine ⟨.ref w.st, rfl, w.st, _, 1, .ref c, rfl, rfl, SqL.of ok.ha, at1, ?_⟩
        refine ⟨.ref w.st, rfl, w.st, _, 0, .int i, rfl, rfl, SqL.of ok.ha, at0, .inl ⟨i, rfl, ?_⟩⟩
        refine ⟨.ref c, rfl, c, _, rfl, .inl (SqL.of ok.hc), ?_⟩
        refine ⟨i, ((ns.map V.int).length : Nat), rfl, rfl, by rw [hlm]; omega, ?_⟩
        refine ⟨.ref c, rfl, .int (i % ((ns.map V.int).length : Nat)), rfl, c, _, i % ((ns.map V.int).length : Nat), .int ns[j], rfl, rfl, SqL.of ok.hc, by rw [hlm, hj]; exact atI_nat hget, ?_⟩
        refine ⟨.int ns[j], rfl, ns[j], 1000000000000000000, rfl, rfl, _, rfl, ite2 (fun h3 => ?_) (fun h3 => ?_)⟩
        · -- a great cell
          refine ⟨.int ns[j], rfl, .int m, rfl, ns[j], m, rfl, rfl, ⟨by omega, ?_⟩, ?_⟩
          · have h5 : m.natAbs < 2 ^ 62 := by omega
            have := PySem.Flt.log2_lt_of (by decide : 0 < 62) h5
            omega
          · refine ⟨.ref c, rfl, .int (i % ((ns.map V.int).length : Nat)), rfl, c, ns.map V.int, i % ((ns.map V.int).length : Nat), j, rfl, rfl, ok.hc, ?_, ?_⟩
            · rw [hlm, hj]
              unfold ixN
              rw [if_pos (by omega), if_pos (by omega)]
              simp
            · refine ⟨.int ns[j], rfl, .inl ⟨ns[j], rfl, .int m, rfl, ns[j], m, rfl, rfl, by omega, ?_⟩⟩
              refine fin _ _ h2 ?_ (fun b hb => upd_ne fun e => hb (e ▸ mc))
              rw [show (ns.map V.int).set j (V.int (ns[j] / m)) = (ns.set j (ns[j] / m)).map V.int by rw [List.map_set]]
              refine f2 _ (by intro e; have := congrArg List.length e; rw [List.length_set, List.length_nil] at this; omega) (fun n hn => ?_) (by simpa using ok.len)
              rcases List.mem_or_eq_of_mem_set hn with hn | hn
              · exact ok.n0 n hn
              · rw [hn]; exact Int.ediv_nonneg hn0 (by omega)
        · have hR := f1 (i + 1) (by have := ok.i0; omega)
          have eH : ∀ x, upd H w.st (HO.lst [V.int x, V.ref c]) w.st = some (.lst [V.int x, V.ref c]) := fun x => upd_same
          refine ⟨.ref w.st, rfl, w.st, _, 0, .int i, rfl, rfl, SqL.of ok.ha, at0, ?_⟩
          refine ⟨i, 1, rfl, rfl, ?_⟩
          refine ⟨.ref w.st, rfl, w.st, _, 0, 0, rfl, rfl, ok.ha, rfl, ?_⟩
          show tSeq _ _ _ _ (upd H w.st (.lst [V.int (i + 1), V.ref c]))
          have at0' : atI [V.int (i + 1), V.ref c] 0 = some (V.int (i + 1)) := atI_nat (j := 0) rfl
          refine ⟨.int ns[j], rfl, ns[j], 48271, rfl, rfl, .inr (by decide), ?_⟩
          refine ⟨.ref w.st, rfl, w.st, _, 0, .int (i + 1), rfl, rfl, SqL.of (eH _), at0', i + 1, 69621, rfl, rfl, .inr (by decide), _, _, rfl, rfl, .inl ⟨_, rfl, _, 2147483647, rfl, rfl, (show (0 : Int) < 2147483647 by decide), ?_⟩⟩
          refine ⟨_, rfl, _, 16807, rfl, rfl, .inr (by decide), ?_⟩
          refine ⟨.ref w.st, rfl, w.st, _, 0, .int (i + 1), rfl, rfl, SqL.of (eH _), at0', i + 1, 7919, rfl, rfl, .inr (by decide), _, _, rfl, rfl, .inl ⟨_, rfl, _, 1000000007, rfl, rfl, (show (0 : Int) < 1000000007 by decide), ?_⟩⟩
          refine ⟨_, rfl, _, 7, rfl, rfl, ⟨by decide, by decide⟩, .inl ⟨_, rfl, .int m, rfl, _, m, rfl, rfl, by omega, ?_⟩⟩
          exact fin _ _ h2 hR (fun b hb => upd_ne fun e => hb (e ▸ ma))

def rd__law_lots : DS :=
  dSeq (dSet 2 (dLst (dCons (dTup (dNil)) (dNil))))
  (dSeq (dFor (dRng1 (dVar 0)) (gN 3) (dSet 2 (dOp addD (dVar 2) (dComp (dSeqI (dVar 2)) (gN 4) (dTest (dOp ltD (dCB lenD (dCons (dVar 4) (dNil))) (dVar 1))) (dOp addD (dVar 4) (dTup (dCons (dVar 3) (dNil)))) [4]))))
  (dRet (dComp (dSeqI (dVar 2)) (gN 4) (dTest (dOp eqD (dCB lenD (dCons (dVar 4) (dNil))) (dVar 1))) (dVar 4) [4])))
def wp__law_lots : Sd := wpOf 5 rd__law_lots
set_option maxHeartbeats 4000000 in
theorem ok__law_lots (T : Tx K mg) : FnOk P w K mg base CX0 1 (He.ga K "_law_lots") T.fd__law_lots ["many", "size"] (spD K 2 wp__law_lots) := fn_dataD T.F__law_lots sc__law_lots fun cdv A outer s H E hr => by
  have hu := hu_room hr
  have hu1 := hu1_room hr
  exact qss_cons (qs_set (i := 2) sc__law_lots.nd rfl (by first | exact Or.inl rfl | exact Or.inr rfl) (qe_lst (qa_cons (qe_tup (qa_nil)) (qa_nil))))
      (qss_cons (qs_for PassesOwn.never (by rfl) (qi_rng1 (by rfl) T.z_range (qv 0)) (qg_name (i := 3) sc__law_lots.nd rfl (by first | exact Or.inl rfl | exact Or.inr rfl)) (qss_one (qs_set (i := 2) sc__law_lots.nd rfl (by first | exact Or.inl rfl | exact Or.inr rfl) (qe_op od_add (qv 2) (qe_lc (own := [("row", 4)]) (by rfl) sc__law_lots.nd (qi_seq (qv 2)) (blkOk_by (by kernel_rfl)) (by rfl) (fun _ _ _ _ _ => qg_name (i := 4) sc__law_lots.nd rfl (by first | exact Or.inl rfl | exact Or.inr rfl)) (fun _ _ _ _ _ => qts_one (qt_cmp (od_lt hu1) (qe_callB cd_len (by rfl) T.z_len (by decide +kernel) (qa_cons (qv 4) (qa_nil))) (qv 1) (nomark _))) (fun _ _ _ _ _ => qe_op od_add (qv 4) (qe_tup (qa_cons (qv 3) (qa_nil)))))))))
      (qss_one (qs_ret (qe_lc (own := [("row", 4)]) (by rfl) sc__law_lots.nd (qi_seq (qv 2)) (blkOk_by (by kernel_rfl)) (by rfl) (fun _ _ _ _ _ => qg_name (i := 4) sc__law_lots.nd rfl (by first | exact Or.inl rfl | exact Or.inr rfl)) (fun _ _ _ _ _ => qts_one (qt_cmp (od_eq hu1) (qe_callB cd_len (by rfl) T.z_len (by decide +kernel) (qa_cons (qv 4) (qa_nil))) (qv 1) (nomark _))) (fun _ _ _ _ _ => qv 4)))))
def rd__law_choices : DS :=
  dSeq (dSet 2 (dLst (dCons (dC (.int 1)) (dNil))))
  (dSeq (dFor (dRng1 (dVar 0)) (gN 3) (dSet 2 (dOp addD (dOp addD (dLst (dCons (dC (.int 1)) (dNil))) (dComp (dRng1 (dOp subD (dCB lenD (dCons (dVar 2) (dNil))) (dC (.int 1)))) (gN 4) (dYes) (dOp addD (dOp ixD (dVar 2) (dVar 4)) (dOp ixD (dVar 2) (dOp addD (dVar 4) (dC (.int 1))))) [4])) (dLst (dCons (dC (.int 1)) (dNil))))))
  (dRet (dIf (dTest (dChain leD leD (dC (.int 0)) (dVar 1) (dVar 0))) (dOp ixD (dVar 2) (dVar 1)) (dC (.int 0)))))
def wp__law_choices : Sd := wpOf 5 rd__law_choices
set_option maxHeartbeats 4000000 in
theorem ok__law_choices (T : Tx K mg) : FnOk P w K mg base CX0 1 (He.ga K "_law_choices") T.fd__law_choices ["many", "some"] (spD K 2 wp__law_choices) := fn_dataD T.F__law_choices sc__law_choices fun cdv A outer s H E hr => by
  have hu := hu_room hr
  have hu1 := hu1_room hr
  exact qss_cons (qs_set (i := 2) sc__law_choices.nd rfl (by first | exact Or.inl rfl | exact Or.inr rfl) (qe_lst (qa_cons (qe_int) (qa_nil))))
      (qss_cons (qs_for PassesOwn.never (by rfl) (qi_rng1 (by rfl) T.z_range (qv 0)) (qg_name (i := 3) sc__law_choices.nd rfl (by first | exact Or.inl rfl | exact Or.inr rfl)) (qss_one (qs_set (i := 2) sc__law_choices.nd rfl (by first | exact Or.inl rfl | exact Or.inr rfl) (qe_op od_add (qe_op od_add (qe_lst (qa_cons (qe_int) (qa_nil))) (qe_lc (own := [("k", 4)]) (by rfl) sc__law_choices.nd (qi_rng1 (by rfl) T.z_range (qe_op od_sub (qe_callB cd_len (by rfl) T.z_len (by decide +kernel) (qa_cons (qv 2) (qa_nil))) (qe_int))) (blkOk_by (by kernel_rfl)) (by rfl) (fun _ _ _ _ _ => qg_name (i := 4) sc__law_choices.nd rfl (by first | exact Or.inl rfl | exact Or.inr rfl)) (fun _ _ _ _ _ => qts_nil) (fun _ _ _ _ _ => qe_op od_add (qe_ix (qv 2) (qv 4) (fun _ _ => rfl)) (qe_ix (qv 2) (qe_op od_add (qv 4) (qe_int)) (fun _ _ => rfl))))) (qe_lst (qa_cons (qe_int) (qa_nil)))))))
      (qss_one (qs_ret (qe_ifExp (qt_chain (od_le hu1) (od_le hu1) (qe_int) (qv 1) (qv 0)) (qe_ix (qv 2) (qv 1) (fun _ _ => rfl)) (qe_int)))))
def rd__law_drawn : DS :=
  dSeq (dParM 3 4 (mConsF (fLst (dNil)) (mConsD (dVar 0) (mNil))))
  (dSeq (dWhile (dTest (dOp ltD (dCB lenD (dCons (dVar 3) (dNil))) (dCB min2D (dCons (dVar 2) (dCons (dVar 1) (dNil)))))) (dSeq (dSet 4 (dOp modD (dCB intD (dCons (dOp mulD (dVar 4) (dC (.int 48271))) (dNil))) (dC (.int 2147483647))))
  (dIfS (dTest (dOp ninD (dOp modD (dCB intD (dCons (dVar 4) (dNil))) (dVar 1)) (dVar 3))) (dApp 3 (dOp modD (dCB intD (dCons (dVar 4) (dNil))) (dVar 1))) (dNext))))
  (dRet (dCB tupleD (dCons (dVar 3) (dNil)))))
def wp__law_drawn : Sd := wpOf 5 rd__law_drawn
set_option maxHeartbeats 4000000 in
theorem ok__law_drawn (T : Tx K mg) : FnOk P w K mg base CX0 1 (He.ga K "_law_drawn") T.fd__law_drawn ["seed", "many", "draws"] (spD K 3 wp__law_drawn) := fn_dataD T.F__law_drawn sc__law_drawn fun cdv A outer s H E hr => by
  have hu := hu_room hr
  have hu1 := hu1_room hr
  exact qss_cons (qs_parM (i := 3) (j := 4) (by rfl) sc__law_drawn.nd rfl rfl (by decide) rfl rfl (qm_consF (qf_lst (qa_nil)) (qm_consD (qv 0) (qm_nil))) (by rfl))
      (qss_cons (qs_while PassesOwn.never (qt_cmp (od_lt hu1) (qe_callB cd_len (by rfl) T.z_len (by decide +kernel) (qa_cons (qv 3) (qa_nil))) (qe_callB (cd_min2 (by rfl)) (by rfl) T.z_min (by decide +kernel) (qa_cons (qv 2) (qa_cons (qv 1) (qa_nil)))) (nomark _)) (qss_cons (qs_set (i := 4) sc__law_drawn.nd rfl (by first | exact Or.inl rfl | exact Or.inr rfl) (qe_op od_mod (qe_callTy cd_int (by rfl) T.z_int (by decide +kernel) (qa_cons (qe_op od_mul (qv 4) (qe_int)) (qa_nil))) (qe_int)))
      (qss_one (qs_if (qt_cmp (od_nin hu) (qe_op od_mod (qe_callTy cd_int (by rfl) T.z_int (by decide +kernel) (qa_cons (qv 4) (qa_nil))) (qv 1)) (qv 3) (by with_unfolding_all rfl)) (qss_one (qs_app (i := 3) (qe_op od_mod (qe_callTy cd_int (by rfl) T.z_int (by decide +kernel) (qa_cons (qv 4) (qa_nil))) (qv 1)))) (qss_nil)))))
      (qss_one (qs_ret (qe_callTy cd_tuple (by rfl) T.z_tuple (by decide +kernel) (qa_cons (qv 3) (qa_nil))))))
def rd_part : DS :=
  dSeq (dIfS (dTest (dOp ltD (dVar 1) (dC (.int 0)))) (dPar 0 1 (dCons (dOp subD (dC (.int 0)) (dVar 0)) (dCons (dOp subD (dC (.int 0)) (dVar 1)) (dNil)))) (dNext))
  (dSeq (dSet 2 (dCall wp_divisor (bCons (dVar 0) (bCons (dVar 1) (bNil)))))
  (dRet (dTup (dCons (dOp fdivD (dVar 0) (dVar 2)) (dCons (dOp fdivD (dVar 1) (dVar 2)) (dNil))))))
def wp_part : Sd := wpOf 3 rd_part
set_option maxHeartbeats 4000000 in
theorem ok_part (T : Tx K mg) : FnOk P w K mg base CX0 2 (He.ga K "part") T.fd_part ["above", "below"] (spD K 2 wp_part) := fn_dataD T.F_part sc_part fun cdv A outer s H E hr => by
  have hu := hu_room hr
  have hu1 := hu1_room hr
  exact qss_cons (qs_if (qt_cmp (od_lt hu1) (qv 1) (qe_int) (nomark _)) (qss_one (qs_par (i := 0) (j := 1) (by rfl) sc_part.nd rfl rfl (by decide) rfl rfl (qa_cons (qe_op od_sub (qe_int) (qv 0)) (qa_cons (qe_op od_sub (qe_int) (qv 1)) (qa_nil))) (by rfl))) (qss_nil))
      (qss_cons (qs_set (i := 2) sc_part.nd rfl (by first | exact Or.inl rfl | exact Or.inr rfl) (qe_call (ok_divisor T) (hr.mono (by decide)) (by rfl) T.m_divisor T.F_divisor.kp T.b_divisor pass0 (qb_cons (qv 0) (qb_cons (qv 1) (qb_nil)))))
      (qss_one (qs_ret (qe_tup (qa_cons (qe_op od_fdiv (qv 0) (qv 2)) (qa_cons (qe_op od_fdiv (qv 1) (qv 2)) (qa_nil)))))))
def rd__law_pick : DS :=
  dRet (dOp ixD (dVar 1) (dCall wp__law_take (bSt 0 (bCons (dCB lenD (dCons (dVar 1) (dNil))) (bNil)))))
def wp__law_pick : Sd := wpOf 2 rd__law_pick
set_option maxHeartbeats 4000000 in
theorem ok__law_pick (T : Tx K mg) : FnOk P w K mg base CX0 2 (He.ga K "_law_pick") T.fd__law_pick ["state", "row"] (spD K 2 wp__law_pick) := fn_dataD T.F__law_pick sc__law_pick fun cdv A outer s H E hr => by
  have hu := hu_room hr
  have hu1 := hu1_room hr
  exact qss_one (qs_ret (qe_ix (qv 1) (qe_call (ok__law_take T) (hr.mono (by decide)) (by rfl) T.m__law_take T.F__law_take.kp T.b__law_take pass0 (qb_st 0 (qb_cons (qe_callB cd_len (by rfl) T.z_len (by decide +kernel) (qa_cons (qv 1) (qa_nil))) (qb_nil)))) (fun _ _ => rfl)))
def rd_plus : DS :=
  dRet (dCall wp_part (bCons (dOp addD (dOp mulD (dOp ixD (dVar 0) (dC (.int 0))) (dOp ixD (dVar 1) (dC (.int 1)))) (dOp mulD (dOp ixD (dVar 1) (dC (.int 0))) (dOp ixD (dVar 0) (dC (.int 1))))) (bCons (dOp mulD (dOp ixD (dVar 0) (dC (.int 1))) (dOp ixD (dVar 1) (dC (.int 1)))) (bNil))))
def wp_plus : Sd := wpOf 2 rd_plus
set_option maxHeartbeats 4000000 in
theorem ok_plus (T : Tx K mg) : FnOk P w K mg base CX0 3 (He.ga K "plus") T.fd_plus ["one", "other"] (spD K 2 wp_plus) := fn_dataD T.F_plus sc_plus fun cdv A outer s H E hr => by
  have hu := hu_room hr
  have hu1 := hu1_room hr
  exact qss_one (qs_ret (qe_call (ok_part T) (hr.mono (by decide)) (by rfl) T.m_part T.F_part.kp T.b_part pass0 (qb_cons (qe_op od_add (qe_op od_mul (qe_ix (qv 0) (qe_int) (fun _ _ => rfl)) (qe_ix (qv 1) (qe_int) (fun _ _ => rfl))) (qe_op od_mul (qe_ix (qv 1) (qe_int) (fun _ _ => rfl)) (qe_ix (qv 0) (qe_int) (fun _ _ => rfl)))) (qb_cons (qe_op od_mul (qe_ix (qv 0) (qe_int) (fun _ _ => rfl)) (qe_ix (qv 1) (qe_int) (fun _ _ => rfl))) (qb_nil)))))
def rd_chance_of_none : DS :=
  dRet (dCall wp_part (bCons (dCall wp_choices (bCons (dOp subD (dVar 0) (dVar 1)) (bCons (dVar 2) (bNil)))) (bCons (dCall wp_choices (bCons (dVar 0) (bCons (dVar 2) (bNil)))) (bNil))))
def wp_chance_of_none : Sd := wpOf 3 rd_chance_of_none
set_option maxHeartbeats 4000000 in
theorem ok_chance_of_none (T : Tx K mg) : FnOk P w K mg base CX0 3 (He.ga K "chance_of_none") T.fd_chance_of_none ["many", "wrong", "draws"] (spD K 3 wp_chance_of_none) := fn_dataD T.F_chance_of_none sc_chance_of_none fun cdv A outer s H E hr => by
  have hu := hu_room hr
  have hu1 := hu1_room hr
  exact qss_one (qs_ret (qe_call (ok_part T) (hr.mono (by decide)) (by rfl) T.m_part T.F_part.kp T.b_part pass0 (qb_cons (qe_call (ok_choices T) (hr.mono (by decide)) (by rfl) T.m_choices T.F_choices.kp T.b_choices pass0 (qb_cons (qe_op od_sub (qv 0) (qv 1)) (qb_cons (qv 2) (qb_nil)))) (qb_cons (qe_call (ok_choices T) (hr.mono (by decide)) (by rfl) T.m_choices T.F_choices.kp T.b_choices pass0 (qb_cons (qv 0) (qb_cons (qv 2) (qb_nil)))) (qb_nil)))))
def rd_chance_of : DS :=
  dRet (dCall wp_part (bCons (dOp mulD (dCall wp_choices (bCons (dVar 1) (bCons (dVar 3) (bNil)))) (dCall wp_choices (bCons (dOp subD (dVar 0) (dVar 1)) (bCons (dOp subD (dVar 2) (dVar 3)) (bNil))))) (bCons (dCall wp_choices (bCons (dVar 0) (bCons (dVar 2) (bNil)))) (bNil))))
def wp_chance_of : Sd := wpOf 4 rd_chance_of
set_option maxHeartbeats 4000000 in
theorem ok_chance_of (T : Tx K mg) : FnOk P w K mg base CX0 3 (He.ga K "chance_of") T.fd_chance_of ["many", "wrong", "draws", "seen"] (spD K 4 wp_chance_of) := fn_dataD T.F_chance_of sc_chance_of fun cdv A outer s H E hr => by
  have hu := hu_room hr
  have hu1 := hu1_room hr
  exact qss_one (qs_ret (qe_call (ok_part T) (hr.mono (by decide)) (by rfl) T.m_part T.F_part.kp T.b_part pass0 (qb_cons (qe_op od_mul (qe_call (ok_choices T) (hr.mono (by decide)) (by rfl) T.m_choices T.F_choices.kp T.b_choices pass0 (qb_cons (qv 1) (qb_cons (qv 3) (qb_nil)))) (qe_call (ok_choices T) (hr.mono (by decide)) (by rfl) T.m_choices T.F_choices.kp T.b_choices pass0 (qb_cons (qe_op od_sub (qv 0) (qv 1)) (qb_cons (qe_op od_sub (qv 2) (qv 3)) (qb_nil))))) (qb_cons (qe_call (ok_choices T) (hr.mono (by decide)) (by rfl) T.m_choices T.F_choices.kp T.b_choices pass0 (qb_cons (qv 0) (qb_cons (qv 2) (qb_nil)))) (qb_nil)))))
def rd_is_limit : DS :=
  dSeq (dIfS (dOr (dNot (dTest (dIsi PyData.isTuple (dVar 0)))) (dOr (dTest (dOp neD (dCB lenD (dCons (dVar 0) (dNil))) (dC (.int 2)))) (dNot (dTest (dCB allD (dCons (dComp (dSeqI (dVar 0)) (gN 1) (dYes) (dCall wp_is_whole (bCons (dVar 1) (bCons (dC (.int 1)) (bCons (dC (.int 1000000)) (bNil))))) [1]) (dNil))))))) (dRet (dC (.bool false))) (dNext))
  (dRet (dAndV (dOp ltD (dOp ixD (dVar 0) (dC (.int 0))) (dOp ixD (dVar 0) (dC (.int 1)))) (dOp eqD (dCall wp_part (bCons (dOp ixD (dVar 0) (dC (.int 0))) (bCons (dOp ixD (dVar 0) (dC (.int 1))) (bNil)))) (dVar 0))))
def wp_is_limit : Sd := wpOf 2 rd_is_limit
set_option maxHeartbeats 4000000 in
theorem ok_is_limit (T : Tx K mg) : FnOk P w K mg base CX0 3 (He.ga K "is_limit") T.fd_is_limit ["value"] (spD K 1 wp_is_limit) := fn_dataD T.F_is_limit sc_is_limit fun cdv A outer s H E hr => by
  have hu := hu_room hr
  have hu1 := hu1_room hr
  exact qss_cons (qs_if ((qw_or (qt_not (qt_val (qe_isi kT_tuple (by rfl) T.z_isinstance (by rfl) T.z_tuple (by decide +kernel) (by decide) (by decide) (qv 0)))) (qw_or (qt_cmp (od_ne hu1) (qe_callB cd_len (by rfl) T.z_len (by decide +kernel) (qa_cons (qv 0) (qa_nil))) (qe_int) (nomark _)) (qw_or1 (qt_not (qt_val (qe_callB (cd_all (by rfl)) (by rfl) T.z_all (by decide +kernel) (qa_cons (qe_lc (own := [("one", 1)]) (by rfl) sc_is_limit.nd (qi_seq (qv 0)) (blkOk_by (by kernel_rfl)) (by rfl) (fun _ _ _ _ _ => qg_name (i := 1) sc_is_limit.nd rfl (by first | exact Or.inl rfl | exact Or.inr rfl)) (fun _ _ _ _ _ => qts_nil) (fun _ _ _ _ _ => qe_call (ok_is_whole T) (hr.mono (by decide)) (by rfl) T.m_is_whole T.F_is_whole.kp T.b_is_whole pass0 (qb_cons (qv 1) (qb_cons (qe_int) (qb_cons (qe_gint (by rfl) T.i_MOST_BALLOTS) (qb_nil)))))) (qa_nil)))))))).qt) (qss_one (qs_ret (qe_bl))) (qss_nil))
      (qss_one (qs_ret (qe_and (qe_cmp (od_lt hu1) (qe_ix (qv 0) (qe_int) (fun _ _ => rfl)) (qe_ix (qv 0) (qe_int) (fun _ _ => rfl)) (nomark _)) (qe_one (qe_cmp (od_eq hu1) (qe_call (ok_part T) (hr.mono (by decide)) (by rfl) T.m_part T.F_part.kp T.b_part pass0 (qb_cons (qe_ix (qv 0) (qe_int) (fun _ _ => rfl)) (qb_cons (qe_ix (qv 0) (qe_int) (fun _ _ => rfl)) (qb_nil)))) (qv 0) (nomark _))))))
def rd_total : DS :=
  dSeq (dSet 1 (dTup (dCons (dC (.int 0)) (dCons (dC (.int 1)) (dNil)))))
  (dSeq (dFor (dSeqI (dVar 0)) (gN 2) (dSet 1 (dCall wp_plus (bCons (dVar 1) (bCons (dVar 2) (bNil))))))
  (dRet (dVar 1)))
def wp_total : Sd := wpOf 3 rd_total
set_option maxHeartbeats 4000000 in
theorem ok_total (T : Tx K mg) : FnOk P w K mg base CX0 4 (He.ga K "total") T.fd_total ["row"] (spD K 1 wp_total) := fn_dataD T.F_total sc_total fun cdv A outer s H E hr => by
  have hu := hu_room hr
  have hu1 := hu1_room hr
  exact qss_cons (qs_set (i := 1) sc_total.nd rfl (by first | exact Or.inl rfl | exact Or.inr rfl) (qe_tup (qa_cons (qe_int) (qa_cons (qe_int) (qa_nil)))))
      (qss_cons (qs_for PassesOwn.never (by rfl) (qi_seq (qv 0)) (qg_name (i := 2) sc_total.nd rfl (by first | exact Or.inl rfl | exact Or.inr rfl)) (qss_one (qs_set (i := 1) sc_total.nd rfl (by first | exact Or.inl rfl | exact Or.inr rfl) (qe_call (ok_plus T) (hr.mono (by decide)) (by rfl) T.m_plus T.F_plus.kp T.b_plus pass0 (qb_cons (qv 1) (qb_cons (qv 2) (qb_nil)))))))
      (qss_one (qs_ret (qv 1))))
def rd_draws_needed : DS :=
  dSeq (dPar 3 4 (dCons (dC (.int 0)) (dCons (dOp addD (dOp subD (dVar 0) (dVar 1)) (dC (.int 1))) (dNil))))
  (dSeq (dWhile (dTest (dOp ltD (dVar 3) (dVar 4))) (dSeq (dSet 5 (dOp fdivD (dOp addD (dVar 3) (dVar 4)) (dC (.int 2))))
  (dIfS (dTest (dCall wp_is_less (bCons (dVar 2) (bCons (dCall wp_chance_of_none (bCons (dVar 0) (bCons (dVar 1) (bCons (dVar 5) (bNil))))) (bNil))))) (dSet 3 (dOp addD (dVar 5) (dC (.int 1)))) (dSet 4 (dVar 5)))))
  (dRet (dVar 3)))
def wp_draws_needed : Sd := wpOf 6 rd_draws_needed
set_option maxHeartbeats 4000000 in
theorem ok_draws_needed (T : Tx K mg) : FnOk P w K mg base CX0 4 (He.ga K "draws_needed") T.fd_draws_needed ["many", "wrong", "limit"] (spD K 3 wp_draws_needed) := fn_dataD T.F_draws_needed sc_draws_needed fun cdv A outer s H E hr => by
  have hu := hu_room hr
  have hu1 := hu1_room hr
  exact qss_cons (qs_par (i := 3) (j := 4) (by rfl) sc_draws_needed.nd rfl rfl (by decide) rfl rfl (qa_cons (qe_int) (qa_cons (qe_op od_add (qe_op od_sub (qv 0) (qv 1)) (qe_int)) (qa_nil))) (by rfl))
      (qss_cons (qs_while PassesOwn.never (qt_cmp (od_lt hu1) (qv 3) (qv 4) (nomark _)) (qss_cons (qs_set (i := 5) sc_draws_needed.nd rfl (by first | exact Or.inl rfl | exact Or.inr rfl) (qe_op od_fdiv (qe_op od_add (qv 3) (qv 4)) (qe_int)))
      (qss_one (qs_if (qt_val (qe_call (ok_is_less T) (hr.mono (by decide)) (by rfl) T.m_is_less T.F_is_less.kp T.b_is_less pass0 (qb_cons (qv 2) (qb_cons (qe_call (ok_chance_of_none T) (hr.mono (by decide)) (by rfl) T.m_chance_of_none T.F_chance_of_none.kp T.b_chance_of_none pass0 (qb_cons (qv 0) (qb_cons (qv 1) (qb_cons (qv 5) (qb_nil))))) (qb_nil))))) (qss_one (qs_set (i := 3) sc_draws_needed.nd rfl (by first | exact Or.inl rfl | exact Or.inr rfl) (qe_op od_add (qv 5) (qe_int)))) (qss_one (qs_set (i := 4) sc_draws_needed.nd rfl (by first | exact Or.inl rfl | exact Or.inr rfl) (qv 5)))))))
      (qss_one (qs_ret (qv 3))))
def rd_risk : DS :=
  dRet (dCall wp_chance_of_none (bCons (dVar 0) (bCons (dCall wp_wrong_needed (bCons (dVar 1) (bNil))) (bCons (dVar 2) (bNil)))))
def wp_risk : Sd := wpOf 3 rd_risk
set_option maxHeartbeats 4000000 in
theorem ok_risk (T : Tx K mg) : FnOk P w K mg base CX0 4 (He.ga K "risk") T.fd_risk ["many", "margin", "draws"] (spD K 3 wp_risk) := fn_dataD T.F_risk sc_risk fun cdv A outer s H E hr => by
  have hu := hu_room hr
  have hu1 := hu1_room hr
  exact qss_one (qs_ret (qe_call (ok_chance_of_none T) (hr.mono (by decide)) (by rfl) T.m_chance_of_none T.F_chance_of_none.kp T.b_chance_of_none pass0 (qb_cons (qv 0) (qb_cons (qe_call (ok_wrong_needed T) (hr.mono (by decide)) (by rfl) T.m_wrong_needed T.F_wrong_needed.kp T.b_wrong_needed pass0 (qb_cons (qv 1) (qb_nil))) (qb_cons (qv 2) (qb_nil))))))
def rd_law : DS :=
  dSeq (dFor (dRng1 (dC (.int 4))) (gN 2) (dSeq (dSet 3 (dOp addD (dC (.int 1)) (dCall wp__law_take (bSt 1 (bCons (dC (.int 10)) (bNil))))))
  (dSeq (dAsg (dTup (dCons (dCall wp__law_take (bSt 1 (bCons (dOp addD (dVar 3) (dC (.int 1))) (bNil)))) (dCons (dCall wp__law_take (bSt 1 (bCons (dOp addD (dVar 3) (dC (.int 1))) (bNil)))) (dNil)))) (gTupD 2 (gConsD (gN 4) (gConsD (gN 5) (gNilD)))))
  (dSeq (dSet 6 (dCall wp__law_lots (bCons (dVar 3) (bCons (dVar 5) (bNil)))))
  (dSeq (dSetL 7 (fComp (dRng1 (dOp addD (dVar 5) (dC (.int 1)))) (gN 21) (dYes) (dCB lenD (dCons (dComp (dSeqI (dVar 6)) (gN 24) (dTest (dOp eqD (dCB lenD (dCons (dComp (dSeqI (dVar 24)) (gN 26) (dTest (dOp ltD (dVar 26) (dVar 4))) (dVar 26) [26]) (dNil))) (dVar 21))) (dVar 24) [24]) (dNil))) [21]))
  (dSeq (dIfS (dTest (dOp neD (dComp (dRng1 (dOp addD (dVar 5) (dC (.int 1)))) (gN 21) (dYes) (dCall wp_chance_of (bCons (dVar 3) (bCons (dVar 4) (bCons (dVar 5) (bCons (dVar 21) (bNil)))))) [21]) (dComp (dSeqI (dVar 7)) (gN 22) (dYes) (dCall wp_part (bCons (dVar 22) (bCons (dCB lenD (dCons (dVar 6) (dNil))) (bNil)))) [22]))) (dRet (dC (.bool false))) (dNext))
  (dSeq (dIfS (dOr (dTest (dOp neD (dCall wp_chance_of_none (bCons (dVar 3) (bCons (dVar 4) (bCons (dVar 5) (bNil))))) (dCall wp_part (bCons (dOp ixD (dVar 7) (dC (.int 0))) (bCons (dCB lenD (dCons (dVar 6) (dNil))) (bNil)))))) (dTest (dOp neD (dCall wp_total (bCons (dComp (dRng1 (dOp addD (dVar 5) (dC (.int 1)))) (gN 21) (dYes) (dCall wp_chance_of (bCons (dVar 3) (bCons (dVar 4) (bCons (dVar 5) (bCons (dVar 21) (bNil)))))) [21]) (bNil))) (dTup (dCons (dC (.int 1)) (dCons (dC (.int 1)) (dNil))))))) (dRet (dC (.bool false))) (dNext))
  (dSeq (dPar 8 9 (dCons (dCall wp__law_take (bSt 1 (bCons (dC (.int 40)) (bNil)))) (dCons (dOp subD (dCall wp__law_take (bSt 1 (bCons (dC (.int 42)) (bNil)))) (dC (.int 1))) (dNil))))
  (dSeq (dIfS (dTest (dOp neD (dCall wp_choices (bCons (dVar 8) (bCons (dVar 9) (bNil)))) (dCall wp__law_choices (bCons (dVar 8) (bCons (dVar 9) (bNil)))))) (dRet (dC (.bool false))) (dNext))
  (dSeq (dSet 10 (dOp addD (dC (.int 2)) (dCall wp__law_take (bSt 1 (bCons (dC (.int 30)) (bNil))))))
  (dSeq (dSet 11 (dCall wp_part (bCons (dOp addD (dC (.int 1)) (dCall wp__law_take (bSt 1 (bCons (dOp subD (dVar 10) (dC (.int 1))) (bNil))))) (bCons (dVar 10) (bNil)))))
  (dSeq (dSet 12 (dCall wp__law_pick (bSt 1 (bCons (dLst (dCons (dVar 3) (dCons (dC (.int 30)) (dCons (dC (.int 200)) (dCons (dC (.int 3000)) (dNil)))))) (bNil)))))
  (dSeq (dSet 13 (dOp addD (dC (.int 1)) (dCall wp__law_take (bSt 1 (bCons (dVar 12) (bNil))))))
  (dSeq (dSet 14 (dCall wp_draws_needed (bCons (dVar 12) (bCons (dVar 13) (bCons (dVar 11) (bNil))))))
  (dSeq (dIfS (dOr (dTest (dOp isntD (dCall wp_is_limit (bCons (dVar 11) (bNil))) (dC (.bool true)))) (dOr (dTest (dCall wp_is_less (bCons (dVar 11) (bCons (dCall wp_chance_of_none (bCons (dVar 12) (bCons (dVar 13) (bCons (dVar 14) (bNil))))) (bNil))))) (dAnd (dTest (dOp gtD (dVar 14) (dC (.int 0)))) (dNot (dTest (dCall wp_is_less (bCons (dVar 11) (bCons (dCall wp_chance_of_none (bCons (dVar 12) (bCons (dVar 13) (bCons (dOp subD (dVar 14) (dC (.int 1))) (bNil))))) (bNil))))))))) (dRet (dC (.bool false))) (dNext))
  (dSeq (dIfS (dAnd (dTest (dOp ltD (dVar 12) (dC (.int 201)))) (dTest (dOp neD (dOp ixD (dComp (dRng1 (dOp addD (dOp subD (dVar 12) (dVar 13)) (dC (.int 2)))) (gN 25) (dNot (dTest (dCall wp_is_less (bCons (dVar 11) (bCons (dCall wp_chance_of_none (bCons (dVar 12) (bCons (dVar 13) (bCons (dVar 25) (bNil))))) (bNil)))))) (dVar 25) [25]) (dC (.int 0))) (dVar 14)))) (dRet (dC (.bool false))) (dNext))
  (dSeq (dSet 15 (dOp addD (dCall wp__law_take (bSt 1 (bCons (dVar 12) (bNil)))) (dC (.int 1))))
  (dSeq (dSet 16 (dOp ixD (dComp (dRng1 (dOp addD (dVar 15) (dC (.int 1)))) (gN 23) (dTest (dOp leD (dOp subD (dVar 15) (dOp mulD (dC (.int 2)) (dVar 23))) (dC (.int 0)))) (dVar 23) [23]) (dC (.int 0))))
  (dSeq (dIfS (dOr (dTest (dOp neD (dCall wp_wrong_needed (bCons (dVar 15) (bNil))) (dVar 16))) (dTest (dOp neD (dCall wp_risk (bCons (dVar 12) (bCons (dVar 15) (bCons (dCB min2D (dCons (dC (.int 5)) (dCons (dVar 12) (dNil)))) (bNil))))) (dCall wp_chance_of_none (bCons (dVar 12) (bCons (dVar 16) (bCons (dCB min2D (dCons (dC (.int 5)) (dCons (dVar 12) (dNil)))) (bNil)))))))) (dRet (dC (.bool false))) (dNext))
  (dSeq (dIfS (dAnd (dTest (dOp ltD (dVar 13) (dVar 12))) (dTest (dCall wp_is_less (bCons (dCall wp_chance_of_none (bCons (dVar 12) (bCons (dVar 13) (bCons (dCB min2D (dCons (dC (.int 9)) (dCons (dVar 12) (dNil)))) (bNil))))) (bCons (dCall wp_chance_of_none (bCons (dVar 12) (bCons (dOp addD (dVar 13) (dC (.int 1))) (bCons (dCB min2D (dCons (dC (.int 9)) (dCons (dVar 12) (dNil)))) (bNil))))) (bNil)))))) (dRet (dC (.bool false))) (dNext))
  (dSeq (dAsg (dTup (dCons (dOp addD (dC (.int 1)) (dCall wp__law_take (bSt 1 (bCons (dC (.int 2000000000)) (bNil))))) (dCons (dOp addD (dC (.int 1)) (dCall wp__law_take (bSt 1 (bCons (dC (.int 30)) (bNil))))) (dNil)))) (gTupD 2 (gConsD (gN 17) (gConsD (gN 18) (gNilD)))))
  (dSeq (dSet 19 (dCall wp_drawn (bCons (dVar 17) (bCons (dVar 18) (bCons (dVar 5) (bNil))))))
  (dSeq (dIfS (dOr (dTest (dOp neD (dVar 19) (dCall wp__law_drawn (bCons (dVar 17) (bCons (dVar 18) (bCons (dVar 5) (bNil))))))) (dOr (dTest (dOp neD (dLenSet (dVar 19)) (dCB min2D (dCons (dVar 5) (dCons (dVar 18) (dNil)))))) (dTest (dOp gtD (dCB lenD (dCons (dComp (dSeqI (dVar 19)) (gN 26) (dOr (dTest (dOp ltD (dVar 26) (dC (.int 0)))) (dTest (dOp geD (dVar 26) (dVar 18)))) (dVar 26) [26]) (dNil))) (dC (.int 0)))))) (dRet (dC (.bool false))) (dNext))
  (dIfS (dTest (dOp neD (dSl (dCall wp_drawn (bCons (dVar 17) (bCons (dVar 18) (bCons (dOp addD (dVar 5) (dC (.int 3))) (bNil))))) (dNo) (dPart (dCB lenD (dCons (dVar 19) (dNil))))) (dVar 19))) (dRet (dC (.bool false))) (dNext)))))))))))))))))))))))))
  (dSeq (dFor (dSeqI (dTup (dCons (dC .none) (dCons (dC (.int 5)) (dCons (dTup (dCons (dC (.int 1)) (dNil))) (dCons (dLst (dCons (dC (.int 1)) (dCons (dC (.int 2)) (dNil)))) (dCons (dTup (dCons (dC (.int 0)) (dCons (dC (.int 1)) (dNil)))) (dCons (dTup (dCons (dC (.int 1)) (dCons (dC (.int 1)) (dNil)))) (dCons (dTup (dCons (dC (.int 2)) (dCons (dC (.int 4)) (dNil)))) (dCons (dTup (dCons (dC (.int 3)) (dCons (dC (.int 2)) (dNil)))) (dCons (dTup (dCons (dUn negD (dC (.int 1))) (dCons (dC (.int 2)) (dNil)))) (dCons (dTup (dCons (dC (.int 1)) (dCons (dC (.bool true)) (dNil)))) (dCons (dTup (dCons (dC .none) (dCons (dC (.int 2)) (dNil)))) (dCons (dTup (dCons (dC (.int 1)) (dCons (dC (.int 1000001)) (dNil)))) (dNil))))))))))))))) (gN 20) (dIfS (dTest (dOp isntD (dCall wp_is_limit (bCons (dVar 20) (bNil))) (dC (.bool false)))) (dRet (dC (.bool false))) (dNext)))
  (dRet (dAndV (dOp eqD (dCB sortedA (dCons (dCall wp_drawn (bCons (dC (.int 1)) (bCons (dC (.int 20)) (bCons (dC (.int 50)) (bNil))))) (dNil))) (dListR1 (dC (.int 20)))) (dAndV (dOp eqD (dCall wp_chance_of_none (bCons (dC (.int 10)) (bCons (dC (.int 0)) (bCons (dC (.int 4)) (bNil))))) (dTup (dCons (dC (.int 1)) (dCons (dC (.int 1)) (dNil))))) (dOp eqD (dCall wp_draws_needed (bCons (dC (.int 10)) (bCons (dC (.int 10)) (bCons (dTup (dCons (dC (.int 1)) (dCons (dC (.int 2)) (dNil)))) (bNil))))) (dC (.int 1)))))))
/-- the law behind its first statement -/
def lawOk : Prop := rd_law { nx := fun _ => False, rt := fun d => d = .bool true } ((List.replicate 27 none).set 1 (some .st))
set_option maxHeartbeats 4000000 in
theorem ok_law (T : Tx K mg) (hlaw : lawOk) : FnOk P w K mg base CX0 5 (He.ga K "law") T.fd_law ["script"] (spLaw K) :=
  fn_law T.F_law sc_law (by rfl) (by decide) (by decide) (ok__law_state T) (by rfl) T.m__law_state T.F__law_state.kp T.b__law_state (by first | exact Or.inl rfl | exact Or.inr rfl) (fun cdv A outer s H E hr => by
    have hu := hu_room hr
    have hu1 := hu1_room hr
    exact qss_cons (qs_for PassesOwn.never (by rfl) (qi_rng1 (by rfl) T.z_range (qe_int)) (qg_name (i := 2) sc_law.nd rfl (by first | exact Or.inl rfl | exact Or.inr rfl)) (qss_cons (qs_set (i := 3) sc_law.nd rfl (by first | exact Or.inl rfl | exact Or.inr rfl) (qe_op od_add (qe_int) (qe_call (ok__law_take T) (hr.mono (by decide)) (by rfl) T.m__law_take T.F__law_take.kp T.b__law_take pass0 (qb_st 1 (qb_cons (qe_int) (qb_nil))))))
          (qss_cons (qs_asg (qe_tup (qa_cons (qe_call (ok__law_take T) (hr.mono (by decide)) (by rfl) T.m__law_take T.F__law_take.kp T.b__law_take pass0 (qb_st 1 (qb_cons (qe_op od_add (qv 3) (qe_int)) (qb_nil)))) (qa_cons (qe_call (ok__law_take T) (hr.mono (by decide)) (by rfl) T.m__law_take T.F__law_take.kp T.b__law_take pass0 (qb_st 1 (qb_cons (qe_op od_add (qv 3) (qe_int)) (qb_nil)))) (qa_nil)))) (qg_tup (by rfl) (qgs_cons (qg_name (i := 4) sc_law.nd rfl (by first | exact Or.inl rfl | exact Or.inr rfl)) (qgs_cons (qg_name (i := 5) sc_law.nd rfl (by first | exact Or.inl rfl | exact Or.inr rfl)) (qgs_nil)))))
          (qss_cons (qs_set (i := 6) sc_law.nd rfl (by first | exact Or.inl rfl | exact Or.inr rfl) (qe_call (ok__law_lots T) (hr.mono (by decide)) (by rfl) T.m__law_lots T.F__law_lots.kp T.b__law_lots pass0 (qb_cons (qv 3) (qb_cons (qv 5) (qb_nil)))))
          (qss_cons (qs_lc (i := 7) (own := [("seen", 21)]) _ (fun _ _ _ h => md_set h) (by rfl) sc_law.nd rfl rfl (sw_true rfl rfl rfl (by decide +kernel)) (qi_rng1 (by rfl) T.z_range (qe_op od_add (qv 5) (qe_int))) (blkOk_by (by kernel_rfl)) (by rfl) (fun _ _ _ _ _ => qg_name (i := 21) sc_law.nd rfl (by first | exact Or.inl rfl | exact Or.inr rfl)) (fun _ _ _ _ _ => qts_nil) (fun _ _ _ _ _ => qe_callB cd_len (by rfl) T.z_len (by decide +kernel) (qa_cons (qe_lc (own := [("lot", 24)]) (by rfl) sc_law.nd (qi_seq (qv 6)) (blkOk_by (by kernel_rfl)) (by rfl) (fun _ _ _ _ _ => qg_name (i := 24) sc_law.nd rfl (by first | exact Or.inl rfl | exact Or.inr rfl)) (fun _ _ _ _ _ => qts_one (qt_cmp (od_eq hu1) (qe_callB cd_len (by rfl) T.z_len (by decide +kernel) (qa_cons (qe_lc (own := [("one", 26)]) (by rfl) sc_law.nd (qi_seq (qv 24)) (blkOk_by (by kernel_rfl)) (by rfl) (fun _ _ _ _ _ => qg_name (i := 26) sc_law.nd rfl (by first | exact Or.inl rfl | exact Or.inr rfl)) (fun _ _ _ _ _ => qts_one (qt_cmp (od_lt hu1) (qv 26) (qv 4) (nomark _))) (fun _ _ _ _ _ => qv 26)) (qa_nil))) (qv 21) (nomark _))) (fun _ _ _ _ _ => qv 24)) (qa_nil))))
          (qss_cons (qs_if (qt_cmp (od_ne hu1) (qe_lc (own := [("seen", 21)]) (by rfl) sc_law.nd (qi_rng1 (by rfl) T.z_range (qe_op od_add (qv 5) (qe_int))) (blkOk_by (by kernel_rfl)) (by rfl) (fun _ _ _ _ _ => qg_name (i := 21) sc_law.nd rfl (by first | exact Or.inl rfl | exact Or.inr rfl)) (fun _ _ _ _ _ => qts_nil) (fun _ _ _ _ _ => qe_call (ok_chance_of T) (hr.mono (by decide)) (by rfl) T.m_chance_of T.F_chance_of.kp T.b_chance_of pass0 (qb_cons (qv 3) (qb_cons (qv 4) (qb_cons (qv 5) (qb_cons (qv 21) (qb_nil))))))) (qe_lc (own := [("number", 22)]) (by rfl) sc_law.nd (qi_seq (qv 7)) (blkOk_by (by kernel_rfl)) (by rfl) (fun _ _ _ _ _ => qg_name (i := 22) sc_law.nd rfl (by first | exact Or.inl rfl | exact Or.inr rfl)) (fun _ _ _ _ _ => qts_nil) (fun _ _ _ _ _ => qe_call (ok_part T) (hr.mono (by decide)) (by rfl) T.m_part T.F_part.kp T.b_part pass0 (qb_cons (qv 22) (qb_cons (qe_callB cd_len (by rfl) T.z_len (by decide +kernel) (qa_cons (qv 6) (qa_nil))) (qb_nil))))) (nomark _)) (qss_one (qs_ret (qe_bl))) (qss_nil))
          (qss_cons (qs_if ((qw_or (qt_cmp (od_ne hu1) (qe_call (ok_chance_of_none T) (hr.mono (by decide)) (by rfl) T.m_chance_of_none T.F_chance_of_none.kp T.b_chance_of_none pass0 (qb_cons (qv 3) (qb_cons (qv 4) (qb_cons (qv 5) (qb_nil))))) (qe_call (ok_part T) (hr.mono (by decide)) (by rfl) T.m_part T.F_part.kp T.b_part pass0 (qb_cons (qe_ix (qv 7) (qe_int) (fun _ _ => rfl)) (qb_cons (qe_callB cd_len (by rfl) T.z_len (by decide +kernel) (qa_cons (qv 6) (qa_nil))) (qb_nil)))) (nomark _)) (qw_or1 (qt_cmp (od_ne hu1) (qe_call (ok_total T) (hr.mono (by decide)) (by rfl) T.m_total T.F_total.kp T.b_total pass0 (qb_cons (qe_lc (own := [("seen", 21)]) (by rfl) sc_law.nd (qi_rng1 (by rfl) T.z_range (qe_op od_add (qv 5) (qe_int))) (blkOk_by (by kernel_rfl)) (by rfl) (fun _ _ _ _ _ => qg_name (i := 21) sc_law.nd rfl (by first | exact Or.inl rfl | exact Or.inr rfl)) (fun _ _ _ _ _ => qts_nil) (fun _ _ _ _ _ => qe_call (ok_chance_of T) (hr.mono (by decide)) (by rfl) T.m_chance_of T.F_chance_of.kp T.b_chance_of pass0 (qb_cons (qv 3) (qb_cons (qv 4) (qb_cons (qv 5) (qb_cons (qv 21) (qb_nil))))))) (qb_nil))) (qe_tup (qa_cons (qe_int) (qa_cons (qe_int) (qa_nil)))) (nomark _)))).qt) (qss_one (qs_ret (qe_bl))) (qss_nil))
          (qss_cons (qs_par (i := 8) (j := 9) (by rfl) sc_law.nd rfl rfl (by decide) rfl rfl (qa_cons (qe_call (ok__law_take T) (hr.mono (by decide)) (by rfl) T.m__law_take T.F__law_take.kp T.b__law_take pass0 (qb_st 1 (qb_cons (qe_int) (qb_nil)))) (qa_cons (qe_op od_sub (qe_call (ok__law_take T) (hr.mono (by decide)) (by rfl) T.m__law_take T.F__law_take.kp T.b__law_take pass0 (qb_st 1 (qb_cons (qe_int) (qb_nil)))) (qe_int)) (qa_nil))) (by rfl))
          (qss_cons (qs_if (qt_cmp (od_ne hu1) (qe_call (ok_choices T) (hr.mono (by decide)) (by rfl) T.m_choices T.F_choices.kp T.b_choices pass0 (qb_cons (qv 8) (qb_cons (qv 9) (qb_nil)))) (qe_call (ok__law_choices T) (hr.mono (by decide)) (by rfl) T.m__law_choices T.F__law_choices.kp T.b__law_choices pass0 (qb_cons (qv 8) (qb_cons (qv 9) (qb_nil)))) (nomark _)) (qss_one (qs_ret (qe_bl))) (qss_nil))
          (qss_cons (qs_set (i := 10) sc_law.nd rfl (by first | exact Or.inl rfl | exact Or.inr rfl) (qe_op od_add (qe_int) (qe_call (ok__law_take T) (hr.mono (by decide)) (by rfl) T.m__law_take T.F__law_take.kp T.b__law_take pass0 (qb_st 1 (qb_cons (qe_int) (qb_nil))))))
          (qss_cons (qs_set (i := 11) sc_law.nd rfl (by first | exact Or.inl rfl | exact Or.inr rfl) (qe_call (ok_part T) (hr.mono (by decide)) (by rfl) T.m_part T.F_part.kp T.b_part pass0 (qb_cons (qe_op od_add (qe_int) (qe_call (ok__law_take T) (hr.mono (by decide)) (by rfl) T.m__law_take T.F__law_take.kp T.b__law_take pass0 (qb_st 1 (qb_cons (qe_op od_sub (qv 10) (qe_int)) (qb_nil))))) (qb_cons (qv 10) (qb_nil)))))
          (qss_cons (qs_set (i := 12) sc_law.nd rfl (by first | exact Or.inl rfl | exact Or.inr rfl) (qe_call (ok__law_pick T) (hr.mono (by decide)) (by rfl) T.m__law_pick T.F__law_pick.kp T.b__law_pick pass0 (qb_st 1 (qb_cons (qe_lst (qa_cons (qv 3) (qa_cons (qe_int) (qa_cons (qe_int) (qa_cons (qe_int) (qa_nil)))))) (qb_nil)))))
          (qss_cons (qs_set (i := 13) sc_law.nd rfl (by first | exact Or.inl rfl | exact Or.inr rfl) (qe_op od_add (qe_int) (qe_call (ok__law_take T) (hr.mono (by decide)) (by rfl) T.m__law_take T.F__law_take.kp T.b__law_take pass0 (qb_st 1 (qb_cons (qv 12) (qb_nil))))))
          (qss_cons (qs_set (i := 14) sc_law.nd rfl (by first | exact Or.inl rfl | exact Or.inr rfl) (qe_call (ok_draws_needed T) (hr.mono (by decide)) (by rfl) T.m_draws_needed T.F_draws_needed.kp T.b_draws_needed pass0 (qb_cons (qv 12) (qb_cons (qv 13) (qb_cons (qv 11) (qb_nil))))))
          (qss_cons (qs_if ((qw_or (qt_cmp od_isnt (qe_call (ok_is_limit T) (hr.mono (by decide)) (by rfl) T.m_is_limit T.F_is_limit.kp T.b_is_limit pass0 (qb_cons (qv 11) (qb_nil))) (qe_bl) (nomark _)) (qw_or (qt_val (qe_call (ok_is_less T) (hr.mono (by decide)) (by rfl) T.m_is_less T.F_is_less.kp T.b_is_less pass0 (qb_cons (qv 11) (qb_cons (qe_call (ok_chance_of_none T) (hr.mono (by decide)) (by rfl) T.m_chance_of_none T.F_chance_of_none.kp T.b_chance_of_none pass0 (qb_cons (qv 12) (qb_cons (qv 13) (qb_cons (qv 14) (qb_nil))))) (qb_nil))))) (qw_or1 ((qw_and (qt_cmp (od_gt hu1) (qv 14) (qe_int) (nomark _)) (qw_and1 (qt_not (qt_val (qe_call (ok_is_less T) (hr.mono (by decide)) (by rfl) T.m_is_less T.F_is_less.kp T.b_is_less pass0 (qb_cons (qv 11) (qb_cons (qe_call (ok_chance_of_none T) (hr.mono (by decide)) (by rfl) T.m_chance_of_none T.F_chance_of_none.kp T.b_chance_of_none pass0 (qb_cons (qv 12) (qb_cons (qv 13) (qb_cons (qe_op od_sub (qv 14) (qe_int)) (qb_nil))))) (qb_nil)))))))).qt)))).qt) (qss_one (qs_ret (qe_bl))) (qss_nil))
          (qss_cons (qs_if ((qw_and (qt_cmp (od_lt hu1) (qv 12) (qe_int) (nomark _)) (qw_and1 (qt_cmp (od_ne hu1) (qe_ix (qe_lc (own := [("n", 25)]) (by rfl) sc_law.nd (qi_rng1 (by rfl) T.z_range (qe_op od_add (qe_op od_sub (qv 12) (qv 13)) (qe_int))) (blkOk_by (by kernel_rfl)) (by rfl) (fun _ _ _ _ _ => qg_name (i := 25) sc_law.nd rfl (by first | exact Or.inl rfl | exact Or.inr rfl)) (fun _ _ _ _ _ => qts_one (qt_not (qt_val (qe_call (ok_is_less T) (hr.mono (by decide)) (by rfl) T.m_is_less T.F_is_less.kp T.b_is_less pass0 (qb_cons (qv 11) (qb_cons (qe_call (ok_chance_of_none T) (hr.mono (by decide)) (by rfl) T.m_chance_of_none T.F_chance_of_none.kp T.b_chance_of_none pass0 (qb_cons (qv 12) (qb_cons (qv 13) (qb_cons (qv 25) (qb_nil))))) (qb_nil))))))) (fun _ _ _ _ _ => qv 25)) (qe_int) (fun _ _ => rfl)) (qv 14) (nomark _)))).qt) (qss_one (qs_ret (qe_bl))) (qss_nil))
          (qss_cons (qs_set (i := 15) sc_law.nd rfl (by first | exact Or.inl rfl | exact Or.inr rfl) (qe_op od_add (qe_call (ok__law_take T) (hr.mono (by decide)) (by rfl) T.m__law_take T.F__law_take.kp T.b__law_take pass0 (qb_st 1 (qb_cons (qv 12) (qb_nil)))) (qe_int)))
          (qss_cons (qs_set (i := 16) sc_law.nd rfl (by first | exact Or.inl rfl | exact Or.inr rfl) (qe_ix (qe_lc (own := [("w", 23)]) (by rfl) sc_law.nd (qi_rng1 (by rfl) T.z_range (qe_op od_add (qv 15) (qe_int))) (blkOk_by (by kernel_rfl)) (by rfl) (fun _ _ _ _ _ => qg_name (i := 23) sc_law.nd rfl (by first | exact Or.inl rfl | exact Or.inr rfl)) (fun _ _ _ _ _ => qts_one (qt_cmp (od_le hu1) (qe_op od_sub (qv 15) (qe_op od_mul (qe_int) (qv 23))) (qe_int) (nomark _))) (fun _ _ _ _ _ => qv 23)) (qe_int) (fun _ _ => rfl)))
          (qss_cons (qs_if ((qw_or (qt_cmp (od_ne hu1) (qe_call (ok_wrong_needed T) (hr.mono (by decide)) (by rfl) T.m_wrong_needed T.F_wrong_needed.kp T.b_wrong_needed pass0 (qb_cons (qv 15) (qb_nil))) (qv 16) (nomark _)) (qw_or1 (qt_cmp (od_ne hu1) (qe_call (ok_risk T) (hr.mono (by decide)) (by rfl) T.m_risk T.F_risk.kp T.b_risk pass0 (qb_cons (qv 12) (qb_cons (qv 15) (qb_cons (qe_callB (cd_min2 (by rfl)) (by rfl) T.z_min (by decide +kernel) (qa_cons (qe_int) (qa_cons (qv 12) (qa_nil)))) (qb_nil))))) (qe_call (ok_chance_of_none T) (hr.mono (by decide)) (by rfl) T.m_chance_of_none T.F_chance_of_none.kp T.b_chance_of_none pass0 (qb_cons (qv 12) (qb_cons (qv 16) (qb_cons (qe_callB (cd_min2 (by rfl)) (by rfl) T.z_min (by decide +kernel) (qa_cons (qe_int) (qa_cons (qv 12) (qa_nil)))) (qb_nil))))) (nomark _)))).qt) (qss_one (qs_ret (qe_bl))) (qss_nil))
          (qss_cons (qs_if ((qw_and (qt_cmp (od_lt hu1) (qv 13) (qv 12) (nomark _)) (qw_and1 (qt_val (qe_call (ok_is_less T) (hr.mono (by decide)) (by rfl) T.m_is_less T.F_is_less.kp T.b_is_less pass0 (qb_cons (qe_call (ok_chance_of_none T) (hr.mono (by decide)) (by rfl) T.m_chance_of_none T.F_chance_of_none.kp T.b_chance_of_none pass0 (qb_cons (qv 12) (qb_cons (qv 13) (qb_cons (qe_callB (cd_min2 (by rfl)) (by rfl) T.z_min (by decide +kernel) (qa_cons (qe_int) (qa_cons (qv 12) (qa_nil)))) (qb_nil))))) (qb_cons (qe_call (ok_chance_of_none T) (hr.mono (by decide)) (by rfl) T.m_chance_of_none T.F_chance_of_none.kp T.b_chance_of_none pass0 (qb_cons (qv 12) (qb_cons (qe_op od_add (qv 13) (qe_int)) (qb_cons (qe_callB (cd_min2 (by rfl)) (by rfl) T.z_min (by decide +kernel) (qa_cons (qe_int) (qa_cons (qv 12) (qa_nil)))) (qb_nil))))) (qb_nil))))))).qt) (qss_one (qs_ret (qe_bl))) (qss_nil))
          (qss_cons (qs_asg (qe_tup (qa_cons (qe_op od_add (qe_int) (qe_call (ok__law_take T) (hr.mono (by decide)) (by rfl) T.m__law_take T.F__law_take.kp T.b__law_take pass0 (qb_st 1 (qb_cons (qe_int) (qb_nil))))) (qa_cons (qe_op od_add (qe_int) (qe_call (ok__law_take T) (hr.mono (by decide)) (by rfl) T.m__law_take T.F__law_take.kp T.b__law_take pass0 (qb_st 1 (qb_cons (qe_int) (qb_nil))))) (qa_nil)))) (qg_tup (by rfl) (qgs_cons (qg_name (i := 17) sc_law.nd rfl (by first | exact Or.inl rfl | exact Or.inr rfl)) (qgs_cons (qg_name (i := 18) sc_law.nd rfl (by first | exact Or.inl rfl | exact Or.inr rfl)) (qgs_nil)))))
          (qss_cons (qs_set (i := 19) sc_law.nd rfl (by first | exact Or.inl rfl | exact Or.inr rfl) (qe_call (ok_drawn T) (hr.mono (by decide)) (by rfl) T.m_drawn T.F_drawn.kp T.b_drawn pass0 (qb_cons (qv 17) (qb_cons (qv 18) (qb_cons (qv 5) (qb_nil))))))
          (qss_cons (qs_if ((qw_or (qt_cmp (od_ne hu1) (qv 19) (qe_call (ok__law_drawn T) (hr.mono (by decide)) (by rfl) T.m__law_drawn T.F__law_drawn.kp T.b__law_drawn pass0 (qb_cons (qv 17) (qb_cons (qv 18) (qb_cons (qv 5) (qb_nil))))) (nomark _)) (qw_or (qt_cmp (od_ne hu1) (qe_lenSet (by rfl) T.z_len (by rfl) T.z_set (qv 19)) (qe_callB (cd_min2 (by rfl)) (by rfl) T.z_min (by decide +kernel) (qa_cons (qv 5) (qa_cons (qv 18) (qa_nil)))) (nomark _)) (qw_or1 (qt_cmp (od_gt hu1) (qe_callB cd_len (by rfl) T.z_len (by decide +kernel) (qa_cons (qe_lc (own := [("one", 26)]) (by rfl) sc_law.nd (qi_seq (qv 19)) (blkOk_by (by kernel_rfl)) (by rfl) (fun _ _ _ _ _ => qg_name (i := 26) sc_law.nd rfl (by first | exact Or.inl rfl | exact Or.inr rfl)) (fun _ _ _ _ _ => qts_one ((qw_or (qt_cmp (od_lt hu1) (qv 26) (qe_int) (nomark _)) (qw_or1 (qt_cmp (od_ge hu1) (qv 26) (qv 18) (nomark _)))).qt)) (fun _ _ _ _ _ => qv 26)) (qa_nil))) (qe_int) (nomark _))))).qt) (qss_one (qs_ret (qe_bl))) (qss_nil))
          (qss_one (qs_if (qt_cmp (od_ne hu1) (qe_slice (qe_call (ok_drawn T) (hr.mono (by decide)) (by rfl) T.m_drawn T.F_drawn.kp T.b_drawn pass0 (qb_cons (qv 17) (qb_cons (qv 18) (qb_cons (qe_op od_add (qv 5) (qe_int)) (qb_nil))))) (qo_none) (qo_some (qe_callB cd_len (by rfl) T.z_len (by decide +kernel) (qa_cons (qv 19) (qa_nil))))) (qv 19) (nomark _)) (qss_one (qs_ret (qe_bl))) (qss_nil))))))))))))))))))))))))))
          (qss_cons (qs_for PassesOwn.never (by rfl) (qi_seq (qe_tup (qa_cons (qe_non) (qa_cons (qe_int) (qa_cons (qe_tup (qa_cons (qe_int) (qa_nil))) (qa_cons (qe_lst (qa_cons (qe_int) (qa_cons (qe_int) (qa_nil)))) (qa_cons (qe_tup (qa_cons (qe_int) (qa_cons (qe_int) (qa_nil)))) (qa_cons (qe_tup (qa_cons (qe_int) (qa_cons (qe_int) (qa_nil)))) (qa_cons (qe_tup (qa_cons (qe_int) (qa_cons (qe_int) (qa_nil)))) (qa_cons (qe_tup (qa_cons (qe_int) (qa_cons (qe_int) (qa_nil)))) (qa_cons (qe_tup (qa_cons (qe_neg (qe_int)) (qa_cons (qe_int) (qa_nil)))) (qa_cons (qe_tup (qa_cons (qe_int) (qa_cons (qe_bl) (qa_nil)))) (qa_cons (qe_tup (qa_cons (qe_non) (qa_cons (qe_int) (qa_nil)))) (qa_cons (qe_tup (qa_cons (qe_int) (qa_cons (qe_int) (qa_nil)))) (qa_nil))))))))))))))) (qg_name (i := 20) sc_law.nd rfl (by first | exact Or.inl rfl | exact Or.inr rfl)) (qss_one (qs_if (qt_cmp od_isnt (qe_call (ok_is_limit T) (hr.mono (by decide)) (by rfl) T.m_is_limit T.F_is_limit.kp T.b_is_limit pass0 (qb_cons (qv 20) (qb_nil))) (qe_bl) (nomark _)) (qss_one (qs_ret (qe_bl))) (qss_nil))))
          (qss_one (qs_ret (qe_and (qe_cmp (od_eq hu1) (qe_callB (cd_sortedA hu) (by rfl) T.z_sorted (by decide +kernel) (qa_cons (qe_call (ok_drawn T) (hr.mono (by decide)) (by rfl) T.m_drawn T.F_drawn.kp T.b_drawn pass0 (qb_cons (qe_int) (qb_cons (qe_int) (qb_cons (qe_int) (qb_nil))))) (qa_nil))) (qe_listR1 (by rfl) (by rfl) T.z_list (by rfl) T.z_range (qe_int)) (nomark _)) (qe_and (qe_cmp (od_eq hu1) (qe_call (ok_chance_of_none T) (hr.mono (by decide)) (by rfl) T.m_chance_of_none T.F_chance_of_none.kp T.b_chance_of_none pass0 (qb_cons (qe_int) (qb_cons (qe_int) (qb_cons (qe_int) (qb_nil))))) (qe_tup (qa_cons (qe_int) (qa_cons (qe_int) (qa_nil)))) (nomark _)) (qe_one (qe_cmp (od_eq hu1) (qe_call (ok_draws_needed T) (hr.mono (by decide)) (by rfl) T.m_draws_needed T.F_draws_needed.kp T.b_draws_needed pass0 (qb_cons (qe_int) (qb_cons (qe_int) (qb_cons (qe_tup (qa_cons (qe_int) (qa_cons (qe_int) (qa_nil)))) (qb_nil))))) (qe_int) (nomark _))))))))) hlaw

end
end T60

namespace T60

/-! ### binomials -/
def C : Nat → Nat → Nat
  | _, 0 => 1
  | 0, _ + 1 => 0
  | n + 1, k + 1 => C n k + C n (k + 1)
theorem C_0 (n : Nat) : C n 0 = 1 := by cases n <;> rfl
theorem C_s (n k : Nat) : C (n + 1) (k + 1) = C n k + C n (k + 1) := rfl
theorem C_gt : ∀ {n k : Nat}, n < k → C n k = 0
  | 0, k + 1, _ => rfl
  | n + 1, k + 1, h => by rw [C_s, C_gt (by omega), C_gt (by omega)]
theorem C_self : ∀ n, C n n = 1
  | 0 => rfl
  | n + 1 => by rw [C_s, C_self n, C_gt (by omega)]
theorem C_pos : ∀ {n k : Nat}, k ≤ n → 0 < C n k
  | n, 0, _ => by rw [C_0]; decide
  | n + 1, k + 1, h => by rw [C_s]; have := C_pos (n := n) (k := k) (by omega); omega
theorem C_mul : ∀ (n k : Nat), C n (k + 1) * (k + 1) = C n k * (n - k)
  | 0, k => by
    rw [C_gt (by omega), Nat.zero_sub, Nat.mul_zero, Nat.zero_mul]
  | n + 1, 0 => by
    have h := C_mul n 0
    rw [C_0] at h ⊢
    rw [C_s, C_0]
    omega
  | n + 1, k + 1 => by
    have h1 := C_mul n (k + 1)
    have h2 := C_mul n k
    rw [C_s n (k + 1), C_s n k]
    by_cases c : k + 1 ≤ n
    · obtain ⟨e, he⟩ : ∃ e, n - (k + 1) = e := ⟨_, rfl⟩
      have e1 : n - k = e + 1 := by omega
      have e2 : n + 1 - (k + 1) = e + 1 := by omega
      rw [he] at h1
      rw [e1] at h2
      rw [e2, Nat.add_mul, Nat.add_mul, h1, ← h2]
      simp only [Nat.mul_add, Nat.mul_one]
      omega
    · have z1 : C n (k + 1) = 0 := C_gt (by omega)
      have z2 : C n (k + 1 + 1) = 0 := C_gt (by omega)
      rw [z1] at h2
      rw [z1, z2, Nat.add_zero, Nat.zero_mul]
      have : n + 1 - (k + 1) = n - k := by omega
      rw [this, Nat.add_zero, ← h2, Nat.zero_mul]
theorem C_div (n k : Nat) : C n k * (n - k) / (k + 1) = C n (k + 1) := by
  rw [← C_mul, Nat.mul_div_cancel _ (by omega)]
theorem C_symm : ∀ (n k : Nat), k ≤ n → C n (n - k) = C n k
  | 0, 0, _ => rfl
  | n + 1, 0, _ => by rw [Nat.sub_zero, C_self, C_0]
  | n + 1, k + 1, h => by
    by_cases c : k = n
    · subst c; rw [Nat.sub_self, C_0, C_self]
    · obtain ⟨j, hj⟩ : ∃ j, n - k = j + 1 := ⟨n - k - 1, by omega⟩
      have e : n + 1 - (k + 1) = j + 1 := by omega
      rw [e, C_s, C_s]
      have h1 := C_symm n k (by omega)
      have h2 := C_symm n (k + 1) (by omega)
      rw [hj] at h1
      rw [show n - (k + 1) = j by omega] at h2
      rw [h1, h2]; omega
theorem C_le : ∀ (n k : Nat), C n k ≤ 2 ^ n
  | n, 0 => by rw [C_0]; exact Nat.one_le_two_pow
  | 0, k + 1 => Nat.zero_le _
  | n + 1, k + 1 => by
    rw [C_s, Nat.pow_succ]
    have := C_le n k
    have := C_le n (k + 1)
    omega
theorem C_mono (n k : Nat) : C n k ≤ C (n + 1) k := by
  cases k with
  | zero => rw [C_0, C_0]; exact Nat.le_refl _
  | succ k => rw [C_s]; omega
theorem C_mono' {n m : Nat} (h : n ≤ m) (k : Nat) : C n k ≤ C m k := by
  induction h with
  | refl => exact Nat.le_refl _
  | step h ih => exact Nat.le_trans ih (C_mono _ _)
/-- the chance of none falls from draw to draw -/
theorem C_cross {M N n : Nat} (h : M ≤ N) : C M (n + 1) * C N n ≤ C M n * C N (n + 1) := by
  refine Nat.le_of_mul_le_mul_right (c := n + 1) ?_ (by omega)
  have e1 := C_mul M n
  have e2 := C_mul N n
  have a1 : C M (n + 1) * C N n * (n + 1) = C M n * C N n * (M - n) := by
    rw [Nat.mul_right_comm, e1, Nat.mul_right_comm]
  have a2 : C M n * C N (n + 1) * (n + 1) = C M n * C N n * (N - n) := by
    rw [Nat.mul_assoc, e2, Nat.mul_assoc]
  rw [a1, a2]
  exact Nat.mul_le_mul_left _ (by omega)
/-- .. and so over more draws -/
theorem C_fall {M N : Nat} (h : M ≤ N) {p q : Nat} : ∀ {n k : Nat}, n ≤ k → k ≤ N → C M n * q ≤ p * C N n → C M k * q ≤ p * C N k := by
  intro n k hnk
  induction hnk with
  | refl => intro _ h; exact h
  | @step k hk ih =>
    intro hN h0
    have h1 := ih (by omega) h0
    have hx := C_cross (n := k) h
    have hp : 0 < C N k := C_pos (by omega)
    refine Nat.le_of_mul_le_mul_right (c := C N k) ?_ hp
    have s1 : C M (k + 1) * q * C N k ≤ C M k * C N (k + 1) * q := by
      rw [Nat.mul_right_comm]; exact Nat.mul_le_mul_right q hx
    have s2 : C M k * C N (k + 1) * q ≤ p * C N k * C N (k + 1) := by
      rw [Nat.mul_right_comm]; exact Nat.mul_le_mul_right _ h1
    have s3 : p * C N k * C N (k + 1) = p * C N (k + 1) * C N k := Nat.mul_right_comm _ _ _
    exact Nat.le_trans s1 (Nat.le_trans s2 (Nat.le_of_eq s3))

/-! ### fractions -/
def fr (a b : Nat) : Nat × Nat := (a / Nat.gcd a b, b / Nat.gcd a b)
theorem fr_scale {k : Nat} (hk : 0 < k) (a b : Nat) : fr (k * a) (k * b) = fr a b := by
  unfold fr
  rw [Nat.gcd_mul_left, Nat.mul_div_mul_left _ _ hk, Nat.mul_div_mul_left _ _ hk]
theorem fr_self {a : Nat} (h : 0 < a) : fr a a = (1, 1) := by
  unfold fr
  rw [Nat.gcd_self, Nat.div_self h]
theorem fr_eq (a b : Nat) : Nat.gcd a b * (fr a b).1 = a ∧ Nat.gcd a b * (fr a b).2 = b :=
  ⟨Nat.mul_div_cancel' (Nat.gcd_dvd_left a b), Nat.mul_div_cancel' (Nat.gcd_dvd_right a b)⟩
theorem fr_pos {a b : Nat} (h : 0 < b) : 0 < (fr a b).2 := by
  have e := (fr_eq a b).2
  rcases Nat.eq_zero_or_pos (fr a b).2 with z | z
  · rw [z, Nat.mul_zero] at e; omega
  · exact z
theorem fr_le (a b : Nat) : (fr a b).1 ≤ a ∧ (fr a b).2 ≤ b := ⟨Nat.div_le_self .., Nat.div_le_self ..⟩
theorem fr_plus {a b c d : Nat} (hb : 0 < b) (hd : 0 < d) : fr ((fr a b).1 * (fr c d).2 + (fr c d).1 * (fr a b).2) ((fr a b).2 * (fr c d).2) = fr (a * d + c * b) (b * d) := by
  obtain ⟨a1, a2⟩ := fr_eq a b
  obtain ⟨c1, c2⟩ := fr_eq c d
  have hg : 0 < Nat.gcd a b := Nat.gcd_pos_of_pos_right _ hb
  have hh : 0 < Nat.gcd c d := Nat.gcd_pos_of_pos_right _ hd
  generalize Nat.gcd a b = g at *
  generalize Nat.gcd c d = h at *
  generalize (fr a b).1 = a' at *
  generalize (fr a b).2 = b' at *
  generalize (fr c d).1 = c' at *
  generalize (fr c d).2 = d' at *
  subst a1; subst a2; subst c1; subst c2
  rw [← fr_scale (Nat.mul_pos hg hh) (a' * d' + c' * b') (b' * d')]
  congr 1
  · rw [Nat.mul_add, Nat.mul_mul_mul_comm g a' h d', Nat.mul_mul_mul_comm h c' g b', Nat.mul_comm h g]
  · rw [Nat.mul_mul_mul_comm]
theorem fr_plus' {a c N : Nat} (hN : 0 < N) : fr ((fr a N).1 * (fr c N).2 + (fr c N).1 * (fr a N).2) ((fr a N).2 * (fr c N).2) = fr (a + c) N := by
  rw [fr_plus hN hN, ← Nat.add_mul, Nat.mul_comm (a + c), fr_scale hN]
theorem fr_less {p q a b : Nat} (hb : 0 < b) : p * (fr a b).2 < (fr a b).1 * q ↔ p * b < a * q := by
  obtain ⟨a1, a2⟩ := fr_eq a b
  have hg : 0 < Nat.gcd a b := Nat.gcd_pos_of_pos_right _ hb
  generalize Nat.gcd a b = g at *
  generalize (fr a b).1 = a' at *
  generalize (fr a b).2 = b' at *
  subst a1; subst a2
  rw [Nat.mul_left_comm, Nat.mul_assoc]
  exact ⟨fun h => Nat.mul_lt_mul_of_pos_left h hg, fun h => Nat.lt_of_mul_lt_mul_left h⟩
theorem fr_less2 {a c N : Nat} (hN : 0 < N) : (fr a N).1 * (fr c N).2 < (fr c N).1 * (fr a N).2 ↔ a < c := by
  rw [fr_less hN]
  obtain ⟨a1, a2⟩ := fr_eq a N
  have hg : 0 < Nat.gcd a N := Nat.gcd_pos_of_pos_right _ hN
  generalize Nat.gcd a N = g at *
  generalize (fr a N).1 = a' at *
  generalize (fr a N).2 = b' at *
  have e1 : g * (a' * N) = a * N := by rw [← Nat.mul_assoc, a1]
  have e2 : g * (c * b') = c * N := by rw [Nat.mul_left_comm, a2]
  constructor
  · intro h
    have := Nat.mul_lt_mul_of_pos_left h hg
    rw [e1, e2] at this
    exact Nat.lt_of_mul_lt_mul_right this
  · intro h
    have := Nat.mul_lt_mul_of_pos_right h hN
    rw [← e1, ← e2] at this
    exact Nat.lt_of_mul_lt_mul_left this
theorem fr_fr (a b : Nat) (hb : 0 < b) : fr (fr a b).1 (fr a b).2 = fr a b := by
  have hg : 0 < Nat.gcd a b := Nat.gcd_pos_of_pos_right _ hb
  obtain ⟨a1, a2⟩ := fr_eq a b
  rw [← fr_scale hg, a1, a2]

/-! ### the lots -/
def rows (d : Nat) : Nat → List (List Nat)
  | 0 => [[]]
  | i + 1 => rows d i ++ ((rows d i).filter fun r => decide (r.length < d)).map fun r => r ++ [i]
theorem rows_len (d : Nat) : ∀ i, (rows d i).length ≤ 2 ^ i
  | 0 => Nat.le_refl _
  | i + 1 => by
    have := rows_len d i
    have h2 : ((rows d i).filter fun r => decide (r.length < d)).length ≤ (rows d i).length := List.length_filter_le ..
    rw [rows, List.length_append, List.length_map, Nat.pow_succ]
    omega
def low (w : Nat) (r : List Nat) : Nat := (r.filter fun x => decide (x < w)).length
theorem low_app (w : Nat) (r : List Nat) (i : Nat) : low w (r ++ [i]) = low w r + if i < w then 1 else 0 := by
  unfold low
  rw [List.filter_append, List.length_append]
  by_cases c : i < w <;> simp [c]
theorem low_le (w : Nat) (r : List Nat) : low w r ≤ r.length := List.length_filter_le ..
def cnt (w d i s t : Nat) : Nat := (rows d i).countP fun r => decide (low w r = s) && decide (r.length = s + t)
theorem cnt_succ (w d i s t : Nat) : cnt w d (i + 1) s t = cnt w d i s t + (rows d i).countP fun r => decide (r.length < d) && (decide (low w r + (if i < w then 1 else 0) = s) && decide (r.length + 1 = s + t)) := by
  unfold cnt
  rw [rows, List.countP_append, List.countP_map, List.countP_filter]
  congr 1
  refine List.countP_congr fun r _ => ?_
  simp only [Function.comp, low_app, List.length_append, List.length_singleton, Bool.and_eq_true, decide_eq_true_eq]
  constructor <;> (intro h; omega)
theorem cnt_eq (w d : Nat) : ∀ (i s t : Nat), s + t ≤ d → cnt w d i s t = C (min i w) s * C (i - w) t
  | 0, s, t, h => by
    rw [Nat.zero_min, Nat.zero_sub]
    unfold cnt
    rw [rows, List.countP_singleton]
    cases s with
    | zero =>
      cases t with
      | zero => rfl
      | succ t => simp [C, low]
    | succ s => simp [C, low]
  | i + 1, s, t, h => by
    rw [cnt_succ, cnt_eq w d i s t h]
    by_cases c : i < w
    · have m1 : min (i + 1) w = i + 1 := by omega
      have m2 : min i w = i := by omega
      have m3 : i + 1 - w = 0 := by omega
      have m4 : i - w = 0 := by omega
      rw [m1, m2, m3, m4]
      cases s with
      | zero =>
        have : (rows d i).countP (fun r => decide (r.length < d) && (decide (low w r + (if i < w then 1 else 0) = 0) && decide (r.length + 1 = 0 + t))) = 0 := by
          rw [List.countP_eq_zero]
          intro r _
          simp [c]
        rw [this, C_0, C_0, Nat.add_zero]
      | succ s =>
        have : (rows d i).countP (fun r => decide (r.length < d) && (decide (low w r + (if i < w then 1 else 0) = s + 1) && decide (r.length + 1 = s + 1 + t))) = cnt w d i s t := by
          unfold cnt
          refine List.countP_congr fun r _ => ?_
          simp only [Bool.and_eq_true, decide_eq_true_eq, if_pos c]
          constructor <;> (intro h; omega)
        rw [this, cnt_eq w d i s t (by omega), m2, m4, C_s, ← Nat.add_mul, Nat.add_comm]
    · have m1 : min (i + 1) w = w := by omega
      have m2 : min i w = w := by omega
      have m3 : i + 1 - w = (i - w) + 1 := by omega
      rw [m1, m2, m3]
      cases t with
      | zero =>
        have : (rows d i).countP (fun r => decide (r.length < d) && (decide (low w r + (if i < w then 1 else 0) = s) && decide (r.length + 1 = s + 0))) = 0 := by
          rw [List.countP_eq_zero]
          intro r _
          have := low_le w r
          simp only [Bool.and_eq_true, decide_eq_true_eq, if_neg c]
          omega
        rw [this, C_0, C_0, Nat.add_zero]
      | succ t =>
        have : (rows d i).countP (fun r => decide (r.length < d) && (decide (low w r + (if i < w then 1 else 0) = s) && decide (r.length + 1 = s + (t + 1)))) = cnt w d i s t := by
          unfold cnt
          refine List.countP_congr fun r _ => ?_
          simp only [Bool.and_eq_true, decide_eq_true_eq, if_neg c]
          constructor <;> (intro h; omega)
        rw [this, cnt_eq w d i s t (by omega), m2, C_s, ← Nat.mul_add, Nat.add_comm]
def lots (m d : Nat) : List (List Nat) := (rows d m).filter fun r => decide (r.length = d)
theorem lots_len (m d : Nat) : (lots m d).length = C m d := by
  have h := cnt_eq 0 d m 0 d (by omega)
  rw [Nat.min_zero, Nat.sub_zero, C_0, Nat.one_mul] at h
  rw [← h]
  unfold lots cnt
  rw [← List.countP_eq_length_filter]
  refine List.countP_congr fun r _ => ?_
  have : low 0 r = 0 := by simp [low]
  simp [this]
theorem lots_low {m d w s : Nat} (hs : s ≤ d) (hw : w ≤ m) : ((lots m d).filter fun r => decide (low w r = s)).length = C w s * C (m - w) (d - s) := by
  have h := cnt_eq w d m s (d - s) (by omega)
  rw [Nat.min_eq_right hw] at h
  rw [← h]
  unfold lots cnt
  rw [← List.countP_eq_length_filter, List.countP_filter]
  refine List.countP_congr fun r _ => ?_
  rw [show s + (d - s) = d by omega]
/-- parts of a list by a number -/
theorem parts_sum {α : Type} (f : α → Nat) (n : Nat) : ∀ (l : List α), (∀ x ∈ l, f x < n) → ((List.range n).map fun s => (l.filter fun x => decide (f x = s)).length).sum = l.length
  | [], _ => by
    have : ∀ n, ((List.range n).map (fun s => (([] : List α).filter fun x => decide (f x = s)).length)).sum = 0 := by
      intro n
      induction n with
      | zero => rfl
      | succ n ih => rw [List.range_succ, List.map_append, List.sum_append, ih]; rfl
    exact this n
  | x :: l, h => by
    have ih := parts_sum f n l fun y hy => h y (List.mem_cons_of_mem _ hy)
    have hx := h x (List.mem_cons_self ..)
    rw [List.length_cons, ← ih]
    have key : ∀ (n : Nat), ((List.range n).map fun s => ((x :: l).filter fun x => decide (f x = s)).length).sum = ((List.range n).map fun s => (l.filter fun x => decide (f x = s)).length).sum + if f x < n then 1 else 0 := by
      intro n
      induction n with
      | zero => simp
      | succ n ih =>
        rw [List.range_succ, List.map_append, List.map_append, List.sum_append, List.sum_append, ih]
        simp only [List.map_cons, List.map_nil, List.sum_cons, List.sum_nil, Nat.add_zero]
        by_cases c : f x = n
        · rw [List.filter_cons_of_pos (by simp [c]), List.length_cons, if_neg (by omega), if_pos (by omega)]; omega
        · rw [List.filter_cons_of_neg (by simp [c])]
          by_cases c2 : f x < n
          · rw [if_pos c2, if_pos (by omega)]; omega
          · rw [if_neg c2, if_neg (by omega)]; omega
    rw [key n, if_pos hx]
theorem lots_sum {m d w : Nat} (hw : w ≤ m) : ((List.range (d + 1)).map fun s => C w s * C (m - w) (d - s)).sum = C m d := by
  have h := parts_sum (low w) (d + 1) (lots m d) fun r hr => by
    have h1 := low_le w r
    have h2 : r.length = d := by simpa using (List.mem_filter.mp hr).2
    omega
  rw [lots_len] at h
  rw [← h]
  congr 1
  refine List.map_congr_left fun s hs => ?_
  rw [lots_low (by have := List.mem_range.mp hs; omega) hw]
end T60

namespace T60
open PySem PySem.Spec PyProof.Rows L2 Dw
open PySem.W (Datum Tup)

theorem ne0 {y : Int} : (!PyData.eqv (.int y) (.int 0)) = decide (y ≠ 0) := by rw [eqv_int]; simp
theorem dep0 (x y : D) (h : x.depth = 0 := by rfl) : min x.depth y.depth ≤ 100 := by omega
theorem sz2 (x y : D) : [x, y].length ≤ sizeLine := show 2 ≤ sizeLine by decide
/-- sizes -/
def Sm (n : Nat) : Prop := n.log2 ≤ 3300
theorem sm_lt {n : Nat} (h : n < 2 ^ 64) : Sm n := by
  have := PySem.Flt.log2_lt_of (by decide : 0 < 64) h
  unfold Sm; omega
theorem log2_mono {a b : Nat} (h : a ≤ b) : a.log2 ≤ b.log2 := by
  by_cases c : a = 0
  · subst c; exact Nat.zero_le _
  · exact (Nat.le_log2 (by omega)).mpr (Nat.le_trans (Nat.log2_self_le c) h)
theorem sm_le {a b : Nat} (h : a ≤ b) (hb : Sm b) : Sm a := Nat.le_trans (log2_mono h) hb
theorem sm_mulOk {a b : Nat} (ha : Sm a) (hb : Sm b) : MulOk a b := .inr (by
  unfold CMulW
  unfold Sm at ha hb
  simp only [Int.natAbs_natCast]
  omega)
theorem log2_mul (a b : Nat) : (a * b).log2 ≤ a.log2 + b.log2 + 1 := by
  by_cases c : a * b = 0
  · rw [c]; exact Nat.zero_le _
  · have h : a * b < 2 ^ (a.log2 + b.log2 + 2) := by
      have h1 := Nat.lt_log2_self (n := a)
      have h2 := Nat.lt_log2_self (n := b)
      have : 2 ^ (a.log2 + b.log2 + 2) = 2 ^ (a.log2 + 1) * 2 ^ (b.log2 + 1) := by rw [← Nat.pow_add]; congr 1; omega
      rw [this]
      exact Nat.mul_lt_mul'' h1 h2
    have := (Nat.log2_lt c).mpr h
    omega
theorem sm_C {n k : Nat} (h : n ≤ 3000) : Sm (C n k) := by
  by_cases c : C n k = 0
  · rw [c]; exact Nat.zero_le _
  · have h1 : C n k < 2 ^ (n + 1) := Nat.lt_of_le_of_lt (C_le n k) (by rw [Nat.pow_succ]; have := Nat.one_le_two_pow (n := n); omega)
    have := (Nat.log2_lt c).mpr h1
    unfold Sm; omega
theorem divisor_ok (a b : Int) {P : D → Prop} (h : P (.int (Int.gcd a b : Nat))) : wp_divisor [.d (.int a), .d (.int b)] P := by
  refine ⟨_, rfl, _, rfl, fun m ρ => ∃ x y : Nat, ρ = [some (.d (.int x)), some (.d (.int y))] ∧ m = y ∧ Nat.gcd x y = Int.gcd a b, ⟨_, a.natAbs, b.natAbs, rfl, rfl, rfl⟩, ?_⟩
  rintro m ρ ⟨x, y, rfl, hm, hg⟩
  refine ⟨_, rfl, dep0 _ _, _, rfl, go_if (fun h1 => ?_) (fun h1 => ?_)⟩
  · rw [ne0] at h1
    have hy : (y : Int) ≠ 0 := of_decide_eq_true h1
    have hy0 : 0 < y := by omega
    refine ⟨_, rfl, _, rfl, _, rfl, by omega, x % y, by rw [hm]; exact Nat.mod_lt _ hy0, y, x % y, rfl, rfl, ?_⟩
    rw [Nat.gcd_comm, ← Nat.gcd_rec, Nat.gcd_comm]; exact hg
  · rw [ne0] at h1
    have hy : (y : Int) = 0 := Classical.byContradiction fun z => by rw [decide_eq_true z] at h1; cases h1
    have hy0 : y = 0 := by omega
    subst hy0
    refine ⟨_, rfl, ?_⟩
    rw [Nat.gcd_zero_right] at hg
    rw [hg]; exact h
def frD (p : Nat × Nat) : D := .tuple [.int (p.1 : Nat), .int (p.2 : Nat)]
theorem eqv_fr (p q : Nat × Nat) : PyData.eqv (frD p) (frD q) = decide (p = q) := by
  refine (PySem.W.Datum.eqv (((p.1 : Nat) : Int), ((p.2 : Nat) : Int)) (((q.1 : Nat) : Int), ((q.2 : Nat) : Int))).trans (decide_eq_decide.mpr ?_)
  obtain ⟨a, b⟩ := p
  obtain ⟨c, d⟩ := q
  simp only [Prod.mk.injEq]
  omega
theorem dep_fr (p : Nat × Nat) (y : D) : min (frD p).depth y.depth ≤ 100 := by
  have : (frD p).depth = 1 := rfl
  omega
theorem part_ok (a b : Nat) {P : D → Prop} (hb : 0 < b) (hs : b.log2 < 9000) (h : P (frD (fr a b))) : wp_part [.d (.int a), .d (.int b)] P := by
  have hg : 0 < Nat.gcd a b := Nat.gcd_pos_of_pos_right a hb
  have hl : (Nat.gcd a b).log2 < 9000 := Nat.lt_of_le_of_lt (log2_mono (Nat.le_of_dvd hb (Nat.gcd_dvd_right a b))) hs
  refine ⟨_, rfl, _, rfl, go_no (decide_eq_false (by omega)) ⟨_, rfl, _, rfl, divisor_ok a b ?_⟩⟩
  have hg' : (0 : Int) < ((Nat.gcd a b : Nat) : Int) := by omega
  exact ⟨_, rfl, _, rfl, ⟨hg', hl⟩, _, rfl, _, rfl, ⟨hg', hl⟩, sz2 _ _, h⟩
theorem is_less_ok (p q : Nat × Nat) {P : D → Prop} (h1 : Sm p.1) (h2 : Sm p.2) (h3 : Sm q.1) (h4 : Sm q.2) (h : P (.bool (decide (p.1 * q.2 < q.1 * p.2)))) : wp_is_less [.d (frD p), .d (frD q)] P := by
  have e : decide (p.1 * q.2 < q.1 * p.2) = decide ((p.1 : Int) * (q.2 : Int) < (q.1 : Int) * (p.2 : Int)) := decide_eq_decide.mpr (by
    rw [← Int.natCast_mul, ← Int.natCast_mul]; omega)
  rw [e] at h
  exact ⟨_, rfl, _, rfl, _, rfl, _, rfl, sm_mulOk h1 h4, _, rfl, _, rfl, _, rfl, _, rfl, sm_mulOk h3 h2, h⟩
theorem plus_ok (p q : Nat × Nat) {P : D → Prop} (h1 : Sm p.1) (h2 : Sm p.2) (h3 : Sm q.1) (h4 : Sm q.2) (hp : 0 < p.2) (hq : 0 < q.2) (h : P (frD (fr (p.1 * q.2 + q.1 * p.2) (p.2 * q.2)))) : wp_plus [.d (frD p), .d (frD q)] P := by
  refine ⟨_, rfl, _, rfl, _, rfl, _, rfl, sm_mulOk h1 h4, _, rfl, _, rfl, _, rfl, _, rfl, sm_mulOk h3 h2, _, rfl, _, rfl, _, rfl, _, rfl, sm_mulOk h2 h4, ?_⟩
  have := part_ok (P := P) (p.1 * q.2 + q.1 * p.2) (p.2 * q.2) (Nat.mul_pos hp hq) (by
    have := log2_mul p.2 q.2
    unfold Sm at h2 h4
    omega) h
  rw [Int.natCast_add, Int.natCast_mul, Int.natCast_mul, Int.natCast_mul] at this
  exact this
/-- choices, for a whole number of any sign -/
def Ci (n : Nat) (s : Int) : Nat := if s < 0 then 0 else C n s.toNat
theorem choices_ok (n : Nat) (s : Int) {P : D → Prop} (hn : n ≤ 3000) (h : P (.int (Ci n s : Nat))) : wp_choices [.d (.int n), .d (.int s)] P := by
  unfold Ci at h
  by_cases c : s < 0
  · rw [if_pos c] at h
    exact ⟨_, rfl, _, rfl, go_yes (decide_eq_true c) h⟩
  · rw [if_neg c] at h
    refine ⟨_, rfl, _, rfl, go_no (decide_eq_false c) ⟨_, rfl, _, rfl, _, rfl, ?_⟩⟩
    obtain ⟨k, rfl⟩ : ∃ k : Nat, s = k := ⟨s.toNat, by omega⟩
    rw [Int.toNat_natCast] at h
    refine go_if (fun h1 => ?_) (fun h1 => ?_)
    · have h1 : (n : Int) < k := of_decide_eq_true h1
      have : C n k = 0 := C_gt (by omega)
      rw [this] at h; exact h
    · have h1 : ¬ (n : Int) < k := of_decide_eq_false h1
      refine ⟨_, rfl, _, rfl, _, rfl, ⟨?_, ?_⟩, ?_⟩
      · show -(2 ^ 62) ≤ min (k : Int) ((n : Int) - k)
        omega
      · show min (k : Int) ((n : Int) - k) < 2 ^ 62
        omega
      · have e : min (k : Int) ((n : Int) - k) = ((min k (n - k) : Nat) : Int) := by omega
        show wFor _ _ _ (rngD 0 (min (k : Int) ((n : Int) - k))) _
        rw [e]
        refine wFor_rng (fun i ρ => ∃ x, ρ = [some (.d (.int n)), some (.d (.int k)), some (.d (.int (C n i : Nat))), x]) _ _ ⟨none, by rw [C_0]; rfl⟩ ?_ ?_
        · rintro i ρ hi ⟨x, rfl⟩ K hK
          refine ⟨_, rfl, _, rfl, _, rfl, ?_, _, rfl, ⟨by omega, ?_⟩, hK _ ⟨some (.d (.int (i : Nat))), ?_⟩⟩
          · refine .inl (.inr ?_)
            show -(2 ^ 64) < (n : Int) - i ∧ (n : Int) - i < 2 ^ 64
            omega
          · exact Nat.lt_of_le_of_lt (log2_mono (show ((i : Int) + 1).natAbs ≤ 2 ^ 12 by omega)) (by decide)
          · have e2 : (((C n i : Nat) : Int) * ((n : Int) - i)) / ((i : Int) + 1) = ((C n (i + 1) : Nat) : Int) := by
              rw [← C_div, show (n : Int) - i = ((n - i : Nat) : Int) by omega]
              simp
            rw [← e2]; rfl
        · rintro ρ ⟨x, rfl⟩
          refine ⟨_, rfl, ?_⟩
          rcases Nat.le_total k (n - k) with z | z
          · rw [Nat.min_eq_left z]; exact h
          · rw [Nat.min_eq_right z, C_symm n k (by omega)]; exact h
theorem none_ok (m w d : Nat) {P : D → Prop} (hm : m ≤ 3000) (hw : w ≤ m) (hd : d ≤ m) (h : P (frD (fr (C (m - w) d) (C m d)))) : wp_chance_of_none [.d (.int m), .d (.int w), .d (.int d)] P := by
  refine ⟨_, rfl, _, rfl, _, rfl, ?_⟩
  show wp_choices [.d (.int ((m : Int) - w)), .d (.int d)] _
  rw [show (m : Int) - w = ((m - w : Nat) : Int) by omega]
  refine choices_ok _ _ (by omega) ⟨_, rfl, _, rfl, choices_ok _ _ hm ?_⟩
  have e : ∀ n, Ci n (d : Int) = C n d := fun n => by
    unfold Ci
    rw [if_neg (by omega), Int.toNat_natCast]
  rw [e, e]
  exact part_ok _ _ (C_pos hd) (by have := sm_C (k := d) hm; unfold Sm at this; omega) h
theorem chance_ok (m w d s : Nat) {P : D → Prop} (hm : m ≤ 1000) (hw : w ≤ m) (hd : d ≤ m) (hs : s ≤ d) (h : P (frD (fr (C w s * C (m - w) (d - s)) (C m d)))) : wp_chance_of [.d (.int m), .d (.int w), .d (.int d), .d (.int s)] P := by
  refine ⟨_, rfl, _, rfl, choices_ok _ _ (by omega) ⟨_, rfl, _, rfl, _, rfl, _, rfl, ?_⟩⟩
  show wp_choices [.d (.int ((m : Int) - w)), .d (.int ((d : Int) - s))] _
  rw [show (m : Int) - w = ((m - w : Nat) : Int) by omega, show (d : Int) - s = ((d - s : Nat) : Int) by omega]
  have e : ∀ n (d : Nat), Ci n (d : Int) = C n d := fun n d => by
    unfold Ci
    rw [if_neg (by omega), Int.toNat_natCast]
  refine choices_ok _ _ (by omega) ⟨?_, _, rfl, _, rfl, choices_ok _ _ (by omega) ?_⟩
  · rw [e, e]; exact sm_mulOk (sm_C (by omega)) (sm_C (by omega))
  · rw [e, e, e]
    show wp_part [.d (.int (((C w s : Nat) : Int) * ((C (m - w) (d - s) : Nat) : Int))), .d (.int ((C m d : Nat) : Int))] _
    rw [← Int.natCast_mul]
    exact part_ok _ _ (C_pos hd) (by have := sm_C (n := m) (k := d) (by omega); unfold Sm at this; omega) h
end T60

namespace T60
open PySem PySem.Spec PyProof.Rows L2 Dw
open PySem.W (Datum Tup)

theorem total_ok (cs : List Nat) (N : Nat) {P : D → Prop} (hN : 0 < N) (hs : Sm N) (hc : cs.sum ≤ N) (h : P (frD (fr cs.sum N))) : wp_total [.d (.list (cs.map fun c => frD (fr c N)))] P := by
  refine ⟨sz2 _ _, _, rfl, ?_⟩
  show wFor _ _ _ (cs.map fun c => frD (fr c N)) _
  have tk : ∀ j, (cs.take j).sum ≤ cs.sum := fun j => by
    have : cs.sum = (cs.take j).sum + (cs.drop j).sum := by rw [← List.sum_append, List.take_append_drop]
    omega
  refine wFor_inv (fun i ρ => ∃ x, ρ = [some (.d (.list (cs.map fun c => frD (fr c N)))), some (.d (frD (fr (cs.take i).sum N))), x]) _ 0 _ ⟨none, ?_⟩ ?_ ?_
  · have e : fr 0 N = (0, 1) := by
      unfold fr
      rw [Nat.gcd_zero_left, Nat.zero_div, Nat.div_self hN]
    rw [List.take_zero, List.sum_nil, e]; rfl
  · rintro j d ρ hj ⟨x, rfl⟩ K hK
    rw [Nat.zero_add] at hK ⊢
    rw [List.getElem?_map] at hj
    cases hc : cs[j]? with
    | none => rw [hc] at hj; cases hj
    | some c =>
      rw [hc] at hj
      cases hj
      have hsum : (cs.take (j + 1)).sum = (cs.take j).sum + c := by
        rw [List.take_add_one, hc, List.sum_append]; simp
      have b1 := tk (j + 1)
      refine ⟨_, rfl, _, rfl, plus_ok _ _ (sm_le (fr_le _ _).1 (sm_le ?_ hs)) (sm_le (fr_le _ _).2 hs) (sm_le (fr_le _ _).1 (sm_le ?_ hs)) (sm_le (fr_le _ _).2 hs) (fr_pos hN) (fr_pos hN) ?_⟩
      · omega
      · omega
      · rw [fr_plus' hN]
        refine hK _ ⟨some (.d (frD (fr c N))), ?_⟩
        rw [hsum]; rfl
  · rintro ρ ⟨x, rfl⟩
    refine ⟨_, rfl, ?_⟩
    rw [Nat.zero_add, List.length_map, List.take_length]; exact h
def rowD (r : List Nat) : D := .tuple (r.map fun x => .int (x : Nat))
theorem rows_mem (d : Nat) : ∀ i r, r ∈ rows d i → r.length ≤ i
  | 0, r, h => by rw [rows, List.mem_singleton] at h; subst h; exact Nat.le_refl _
  | i + 1, r, h => by
    rw [rows, List.mem_append] at h
    rcases h with h | h
    · have := rows_mem d i r h; omega
    · obtain ⟨q, hq, rfl⟩ := List.mem_map.mp h
      have := rows_mem d i q (List.mem_filter.mp hq).1
      simp; omega
theorem len_rowD (r : List Nat) : (r.map fun x => PyData.int ((x : Nat) : Int)).length = r.length := List.length_map ..
theorem lots_ok (m d : Nat) {P : D → Prop} (hm : m ≤ 12) (h : P (.list ((lots m d).map rowD))) : wp__law_lots [.d (.int m), .d (.int d)] P := by
  have hz : ∀ i, i ≤ 13 → 2 ^ i ≤ sizeLine := fun i hi => Nat.le_trans (Nat.pow_le_pow_right (by decide) hi) (by decide)
  refine ⟨show 0 ≤ sizeLine by decide, show 1 ≤ sizeLine by decide, _, rfl, ⟨by show -(2 ^ 62) ≤ (m : Int); omega, by show (m : Int) < 2 ^ 62; omega⟩, ?_⟩
  refine wFor_rng (fun i ρ => ∃ x y, ρ = [some (.d (.int m)), some (.d (.int d)), some (.d (.list ((rows d i).map rowD))), x, y]) m _ ⟨none, none, rfl⟩ ?_ ?_
  · rintro i ρ hi ⟨x, y, rfl⟩ K hK
    refine ⟨_, rfl, _, rfl, ?_⟩
    have hl := rows_len d i
    refine wComp_t rowD (fun r => decide (r.length < d)) (fun r => rowD (r ++ [i])) _ ?_ (Nat.le_trans hl (hz i (by omega))) ⟨?_, hK _ ⟨some (.d (.int (i : Nat))), y, ?_⟩⟩
    · intro r hr K1 K2 k1 k2
      have hrl := rows_mem d i r hr
      refine ⟨_, rfl, _, rfl, _, rfl, ?_⟩
      have e : (decide ((((r.map fun x => PyData.int ((x : Nat) : Int)).length : Nat) : Int) < (d : Int))) = decide (r.length < d) := by
        rw [len_rowD]; exact decide_eq_decide.mpr (by omega)
      refine go_if (fun h1 => ?_) (fun h1 => k2 (e.symm.trans h1))
      refine ⟨_, rfl, _, rfl, show 1 ≤ sizeLine by decide, ?_, ?_⟩
      · rw [len_rowD]
        refine Nat.le_trans (show r.length + 1 ≤ 2 ^ 13 from ?_) (hz 13 (by omega))
        omega
      · have := k1 (e.symm.trans h1)
        unfold rowD at this
        rw [List.map_append] at this
        exact this
    · rw [List.length_map, List.length_map]
      have h2 : ((rows d i).filter fun r => decide (r.length < d)).length ≤ (rows d i).length := List.length_filter_le ..
      have h3 := hz (i + 1) (by omega)
      rw [Nat.pow_succ] at h3
      omega
    · rw [rows, List.map_append, List.map_map]; rfl
  · rintro ρ ⟨x, y, rfl⟩
    refine ⟨_, rfl, ?_⟩
    have hl := rows_len d m
    refine wComp_t rowD (fun r => decide (r.length = d)) rowD _ ?_ (Nat.le_trans hl (hz m (by omega))) h
    intro r hr K1 K2 k1 k2
    refine ⟨_, rfl, _, rfl, dep0 _ _, _, rfl, ?_⟩
    rw [eqv_int]
    have e : (decide ((((r.map fun x => PyData.int ((x : Nat) : Int)).length : Nat) : Int) = (d : Int))) = decide (r.length = d) := by
      rw [len_rowD]; exact decide_eq_decide.mpr (by omega)
    exact go_if (fun h1 => ⟨_, rfl, k1 (e.symm.trans h1)⟩) (fun h1 => k2 (e.symm.trans h1))
theorem law_choices_ok (n : Nat) (s : Int) {P : D → Prop} (hn : n ≤ 60) (h : P (.int (Ci n s : Nat))) : wp__law_choices [.d (.int n), .d (.int s)] P := by
  refine ⟨show 1 ≤ sizeLine by decide, _, rfl, ⟨by show -(2 ^ 62) ≤ (n : Int); omega, by show (n : Int) < 2 ^ 62; omega⟩, ?_⟩
  let row : Nat → List D := fun t => (List.range (t + 1)).map fun k => .int ((C t k : Nat) : Int)
  have rl : ∀ t, (row t).length = t + 1 := fun t => by simp [row]
  have rg : ∀ t k, k ≤ t → (row t)[k]? = some (.int ((C t k : Nat) : Int)) := fun t k hk => by
    simp only [row, List.getElem?_map]
    rw [List.getElem?_range (by omega)]; rfl
  refine wFor_rng (fun t ρ => ∃ x y, ρ = [some (.d (.int n)), some (.d (.int s)), some (.d (.list (row t))), x, y]) n _ ⟨none, none, rfl⟩ ?_ ?_
  · rintro t ρ ht ⟨x, y, rfl⟩ K hK
    refine ⟨show 1 ≤ sizeLine by decide, _, rfl, ⟨?_, ?_⟩, ?_⟩
    · show -(2 ^ 62) ≤ (((row t).length : Nat) : Int) - 1
      rw [rl]; omega
    · show (((row t).length : Nat) : Int) - 1 < 2 ^ 62
      rw [rl]; omega
    · show wComp _ _ _ _ (rngD 0 ((((row t).length : Nat) : Int) - 1)) _ _
      rw [rl, show (((t + 1 : Nat) : Int) - 1) = (t : Nat) by omega]
      refine wComp_rng (fun k => .int ((C t k + C t (k + 1) : Nat) : Int)) t (fun k hk K2 k2 => ?_) (size_big (by omega)) ?_
      · refine ⟨_, rfl, _, rfl, _, atI_n (rg t k (by omega)), _, rfl, _, rfl, _, atI_n (rg t (k + 1) (by omega)), ?_⟩
        rw [Int.natCast_add] at k2
        exact k2
      · refine ⟨?_, show 1 ≤ sizeLine by decide, ?_, hK _ ⟨some (.d (.int (t : Nat))), y, ?_⟩⟩
        · refine size_big ?_
          simp; omega
        · refine size_big ?_
          simp; omega
        · have e : row (t + 1) = [PyData.int 1] ++ ((List.range t).map fun k => PyData.int ((C t k + C t (k + 1) : Nat) : Int)) ++ [PyData.int 1] := by
            simp only [row]
            rw [List.range_succ, List.range_succ_eq_map, List.map_append, List.map_cons, List.map_map, C_0, List.map_cons, C_self]
            rfl
          rw [e]; rfl
  · rintro ρ ⟨x, y, rfl⟩
    unfold Ci at h
    by_cases c : s < 0
    · rw [if_pos c] at h
      exact ⟨_, rfl, _, rfl, go_no (decide_eq_false (by omega)) ⟨_, rfl, h⟩⟩
    · rw [if_neg c] at h
      obtain ⟨k, rfl⟩ : ∃ k : Nat, s = k := ⟨s.toNat, by omega⟩
      rw [Int.toNat_natCast] at h
      refine ⟨_, rfl, _, rfl, go_yes (decide_eq_true (by omega)) ⟨_, rfl, _, rfl, ?_⟩⟩
      refine go_if (fun h1 => ?_) (fun h1 => ?_)
      · have h1 : (k : Int) ≤ n := of_decide_eq_true h1
        exact ⟨_, rfl, _, rfl, _, atI_n (rg n k (by omega)), h⟩
      · have h1 : ¬ (k : Int) ≤ n := of_decide_eq_false h1
        rw [C_gt (by omega)] at h
        exact h
end T60

namespace T60
open PySem PySem.Spec PyProof.Rows L2 Dw
open PySem.W (Datum Tup)

def whole (x : D) (lo hi : Int) : Bool := match x with
  | .int i => decide (lo ≤ i) && decide (i ≤ hi)
  | _ => false
theorem is_whole_ok (x : D) (lo hi : Int) {P : D → Prop} (h : P (.bool (whole x lo hi))) : wp_is_whole [.d x, .d (.int lo), .d (.int hi)] P := by
  cases x with
  | int i =>
    refine ⟨_, rfl, _, rfl, _, rfl, _, rfl, _, rfl, _, rfl, _, rfl, _, rfl, ?_⟩
    have h : P (.bool (decide (lo ≤ i) && decide (i ≤ hi))) := h
    refine go_if (fun h1 => ?_) (fun h1 => ?_)
    · rw [h1, Bool.true_and] at h
      exact ⟨_, rfl, h⟩
    · rw [h1, Bool.false_and] at h
      exact h
  | bool b => exact ⟨_, rfl, _, rfl, _, rfl, _, rfl, _, rfl, h⟩
  | none => exact ⟨_, rfl, _, rfl, h⟩
  | str s => exact ⟨_, rfl, _, rfl, h⟩
  | list s => exact ⟨_, rfl, _, rfl, h⟩
  | tuple s => exact ⟨_, rfl, _, rfl, h⟩
  | dict s => exact ⟨_, rfl, _, rfl, h⟩
theorem is_limit_not (x : D) {P : D → Prop} (hx : PyData.isTuple x = false) (h : P (.bool false)) : wp_is_limit [.d x] P :=
  ⟨_, rfl, _, rfl, go_yes (by rw [hx]; rfl) h⟩
theorem is_limit_pair (u v : D) {P : D → Prop} (h : (whole u 1 1000000 && whole v 1 1000000) = false → P (.bool false))
    (h2 : ∀ p q : Nat, u = .int p → v = .int q → 1 ≤ p → 1 ≤ q → q ≤ 1000000 → P (.bool (decide (p < q) && decide (fr p q = (p, q))))) : wp_is_limit [.d (.tuple [u, v])] P := by
  refine ⟨_, rfl, _, rfl, go_no rfl ⟨_, rfl, dep0 _ _, _, rfl, go_no rfl ⟨_, rfl, _, rfl, is_whole_ok _ _ _ ⟨show 0 < sizeLine by decide, _, rfl, is_whole_ok _ _ _ ⟨show 1 < sizeLine by decide, ⟨[whole u 1 1000000, whole v 1 1000000], rfl, _, rfl, ?_⟩⟩⟩⟩⟩⟩
  have e : ([whole u 1 1000000, whole v 1 1000000].all id) = (whole u 1 1000000 && whole v 1 1000000) := by simp
  rw [e]
  refine go_if (fun h1 => h (by rw [Bool.not_eq_true'] at h1; exact h1)) (fun h1 => ?_)
  have h1 : (whole u 1 1000000 && whole v 1 1000000) = true := by rw [Bool.not_eq_false'] at h1; exact h1
  rw [Bool.and_eq_true] at h1
  obtain ⟨h3, h4⟩ := h1
  cases u with
  | int i =>
    cases v with
    | int j =>
      simp only [whole, Bool.and_eq_true, decide_eq_true_eq] at h3 h4
      obtain ⟨p, rfl⟩ : ∃ p : Nat, i = p := ⟨i.toNat, by omega⟩
      obtain ⟨q, rfl⟩ : ∃ q : Nat, j = q := ⟨j.toNat, by omega⟩
      have h5 := h2 p q rfl rfl (by omega) (by omega) (by omega)
      refine ⟨_, rfl, _, rfl, _, rfl, _, rfl, _, rfl, ?_⟩
      have e1 : decide ((p : Int) < q) = decide (p < q) := decide_eq_decide.mpr (by omega)
      refine go_if (fun h6 => ?_) (fun h6 => ?_)
      · rw [← e1, h6, Bool.true_and] at h5
        refine ⟨_, rfl, _, rfl, _, rfl, _, rfl, part_ok _ _ (by omega) ?_ ⟨_, rfl, dep_fr _ _, ?_⟩⟩
        · exact Nat.lt_of_le_of_lt (log2_mono (show q ≤ 2 ^ 20 by omega)) (by decide)
        · have := eqv_fr (fr p q) (p, q)
          show P (.bool (PyData.eqv (frD (fr p q)) (frD (p, q))))
          rw [this]; exact h5
      · rw [← e1, h6, Bool.false_and] at h5
        exact h5
    | _ => simp [whole] at h4
  | _ => simp [whole] at h3
theorem is_limit_fr (p q : Nat) {P : D → Prop} (hp : 1 ≤ p) (hpq : p < q) (hq : q ≤ 1000000) (h : P (.bool true)) : wp_is_limit [.d (frD (fr p q))] P := by
  have hq0 : 0 < q := by omega
  refine is_limit_pair _ _ (fun z => ?_) (fun a b ea eb h1 h2 h3 => ?_)
  · exfalso
    obtain ⟨l1, l2⟩ := fr_le p q
    have p2 := fr_pos (a := p) hq0
    have p1 : 0 < (fr p q).1 := by
      have e := (fr_eq p q).1
      rcases Nat.eq_zero_or_pos (fr p q).1 with z | z
      · rw [z, Nat.mul_zero] at e; omega
      · exact z
    have : (whole (PyData.int ((fr p q).1 : Nat)) 1 1000000 && whole (PyData.int ((fr p q).2 : Nat)) 1 1000000) = true := by
      simp only [whole, Bool.and_eq_true, decide_eq_true_eq]
      omega
    rw [this] at z
    cases z
  · have ea : (fr p q).1 = a := by injection ea with ea; omega
    have eb : (fr p q).2 = b := by injection eb with eb; omega
    have e1 : a < b := by
      rw [← ea, ← eb]
      have := (fr_less (p := 1) (q := 1) (a := p) (b := q) hq0)
      obtain ⟨a1, a2⟩ := fr_eq p q
      have hg : 0 < Nat.gcd p q := Nat.gcd_pos_of_pos_right _ hq0
      refine Nat.lt_of_mul_lt_mul_left (a := Nat.gcd p q) ?_
      rw [a1, a2]; exact hpq
    have e2 : fr a b = (a, b) := by
      have := fr_fr p q hq0
      rw [ea, eb] at this
      rw [this, ← ea, ← eb]
    rw [decide_eq_true e1, decide_eq_true e2]
    exact h
theorem draws_needed_ok (G b p q : Nat) {P : D → Prop} (hG : G ≤ 3000) (hb : 1 ≤ b) (hbG : b ≤ G) (hp : Sm p) (hq : Sm q)
    (h : ∀ n : Nat, n ≤ G - b + 1 → ¬ p * C G n < C (G - b) n * q → (∀ k, k < n → p * C G k < C (G - b) k * q) → P (.int n)) : wp_draws_needed [.d (.int G), .d (.int b), .d (frD (p, q))] P := by
  refine ⟨_, rfl, _, rfl, fun m ρ => ∃ (lo hi : Nat) (x : Option Ent), ρ = [some (.d (.int G)), some (.d (.int b)), some (.d (frD (p, q))), some (.d (.int lo)), some (.d (.int hi)), x] ∧ m = hi - lo ∧ lo ≤ hi ∧ hi ≤ G - b + 1 ∧
    (∀ k, k < lo → p * C G k < C (G - b) k * q) ∧ ¬ p * C G hi < C (G - b) hi * q, ⟨_, 0, G - b + 1, none, ?_, rfl, by omega, Nat.le_refl _, fun k hk => by omega, ?_⟩, ?_⟩
  · rw [show ((G - b + 1 : Nat) : Int) = (G : Int) - b + 1 by omega]; rfl
  · rw [C_gt (n := G - b) (by omega), Nat.zero_mul]; omega
  · rintro m ρ ⟨lo, hi, x, rfl, hm, hlh, hh, hlo, hhi⟩
    refine ⟨_, rfl, _, rfl, _, rfl, go_if (fun h1 => ?_) (fun h1 => ?_)⟩
    · have h1 : (lo : Int) < hi := of_decide_eq_true h1
      refine ⟨_, rfl, _, rfl, ⟨by decide, by decide⟩, ?_⟩
      obtain ⟨mid, hmid⟩ : ∃ mid, (lo + hi) / 2 = mid := ⟨_, rfl⟩
      have em : ((lo : Int) + hi) / 2 = (mid : Nat) := by omega
      refine ⟨_, rfl, _, rfl, _, rfl, _, rfl, ?_⟩
      show wp_chance_of_none [.d (.int G), .d (.int b), .d (.int (((lo : Int) + hi) / 2))] _
      rw [em]
      refine none_ok G b mid hG (by omega) (by omega) (is_less_ok (p, q) _ hp hq (sm_le (fr_le _ _).1 (sm_C (by omega))) (sm_le (fr_le _ _).2 (sm_C (by omega))) ⟨_, rfl, ?_⟩)
      rw [decide_eq_decide.mpr (fr_less (C_pos (by omega)))]
      refine go_if (fun h2 => ?_) (fun h2 => ?_)
      · have h2 : p * C G mid < C (G - b) mid * q := of_decide_eq_true h2
        refine ⟨_, rfl, hi - (mid + 1), by omega, mid + 1, hi, some (.d (.int mid)), by rw [Int.natCast_add]; rfl, rfl, by omega, hh, fun k hk => ?_, hhi⟩
        rcases Nat.lt_or_ge k mid with c | c
        · rcases Nat.lt_or_ge (p * C G k) (C (G - b) k * q) with d | d
          · exact d
          · have := C_fall (M := G - b) (N := G) (by omega) (show k ≤ mid by omega) (by omega) d
            omega
        · have : k = mid := by omega
          subst this; exact h2
      · have h2 : ¬ p * C G mid < C (G - b) mid * q := of_decide_eq_false h2
        exact ⟨_, rfl, mid - lo, by omega, lo, mid, some (.d (.int mid)), rfl, rfl, by omega, by omega, hlo, h2⟩
    · have h1 : ¬ (lo : Int) < hi := of_decide_eq_false h1
      have e : lo = hi := by omega
      subst e
      exact ⟨_, rfl, h lo hh hhi hlo⟩
theorem wrong_needed_ok (m : Nat) {P : D → Prop} (h : P (.int ((m + 1) / 2 : Nat))) : wp_wrong_needed [.d (.int m)] P := by
  have e : ((m : Int) + 1) / 2 = (((m + 1) / 2 : Nat) : Int) := by omega
  refine ⟨_, rfl, ⟨by decide, by decide⟩, ?_⟩
  show P (.int (((m : Int) + 1) / 2))
  rw [e]; exact h
theorem risk_ok (G m d : Nat) {P : D → Prop} (hG : G ≤ 3000) (hm : (m + 1) / 2 ≤ G) (hd : d ≤ G) (h : P (frD (fr (C (G - (m + 1) / 2) d) (C G d)))) : wp_risk [.d (.int G), .d (.int m), .d (.int d)] P :=
  ⟨_, rfl, _, rfl, wrong_needed_ok m ⟨_, rfl, none_ok _ _ _ hG hm hd h⟩⟩
theorem pick_ok (ds : List D) {P : D → Prop} (h0 : 0 < ds.length) (h1 : ds.length < 1000) (h : ∀ d ∈ ds, P d) : wp__law_pick [.st, .d (.list ds)] P := by
  refine ⟨_, rfl, rfl, _, rfl, _, rfl, ?_, fun _ ⟨r, e, r0, r1⟩ => ?_⟩
  · show (ds.length : Int) < 2 ^ 62
    omega
  · subst e
    have hr : r.toNat < ds.length := by omega
    refine ⟨ds[r.toNat], ?_, h _ (List.getElem_mem hr)⟩
    have : r = (r.toNat : Int) := by omega
    exact (congrArg (atI ds) this).trans (atI_n (List.getElem?_eq_getElem hr))
end T60

namespace T60

/-- fewer places than different items: no -/
theorem nodup_le {α : Type} [DecidableEq α] : ∀ (l m : List α), l.Nodup → (∀ x ∈ l, x ∈ m) → l.length ≤ m.length
  | [], m, _, _ => Nat.zero_le _
  | x :: l, m, hn, hs => by
    have hx := hs x (List.mem_cons_self ..)
    have hl := List.nodup_cons.mp hn
    have ih := nodup_le l (m.erase x) hl.2 fun y hy => (List.mem_erase_of_ne (show y ≠ x from fun e => hl.1 (e ▸ hy))).mpr (hs y (List.mem_cons_of_mem _ hy))
    have := List.length_erase_of_mem hx
    have := List.length_pos_of_mem hx
    rw [List.length_cons]
    omega
theorem nodup_all {α : Type} [DecidableEq α] {l m : List α} (hn : l.Nodup) (hs : ∀ x ∈ l, x ∈ m) (hl : m.length ≤ l.length) : ∀ x ∈ m, x ∈ l := fun x hx => Classical.byContradiction fun c => by
  have := nodup_le l (m.erase x) hn fun y hy => (List.mem_erase_of_ne (show y ≠ x from fun e => c (e ▸ hy))).mpr (hs y hy)
  have := List.length_erase_of_mem hx
  have := List.length_pos_of_mem hx
  omega
section
variable {g p : Nat}
theorem pow_gcd (h : ∀ a b, g ^ a % p = 1 → g ^ (a + b) % p = 1 → g ^ b % p = 1) (h0 : 1 < p) : ∀ (m n : Nat), g ^ m % p = 1 → g ^ n % p = 1 → g ^ (Nat.gcd m n) % p = 1 := by
  have hm : ∀ k m r, g ^ m % p = 1 → g ^ (m * k + r) % p = 1 → g ^ r % p = 1 := by
    intro k
    induction k with
    | zero => intro m r _ h2; simpa using h2
    | succ k ih =>
      intro m r h1 h2
      refine ih m r h1 (h m _ h1 ?_)
      rw [show m + (m * k + r) = m * (k + 1) + r by rw [Nat.mul_succ]; omega]
      exact h2
  intro m n
  induction m, n using Nat.gcd.induction with
  | H0 n => intro _ h2; rw [Nat.gcd_zero_left]; exact h2
  | H1 m n hpos ih =>
    intro h1 h2
    rw [Nat.gcd_rec]
    refine ih (hm (n / m) m (n % m) h1 ?_) h1
    rw [Nat.div_add_mod]; exact h2
/-- a root of order p - 1 meets every number -/
theorem cover (hp : 1 < p) (h1 : g ^ (p - 1) % p = 1) (ho : ∀ d, 1 ≤ d → d < p - 1 → g ^ d % p ≠ 1) (seed r : Nat) (s1 : 1 ≤ seed) (s2 : seed < p) (r1 : 1 ≤ r) (r2 : r < p) : ∃ t, 1 ≤ t ∧ t ≤ p - 1 ∧ seed * g ^ t % p = r := by
  have turn : ∀ a, g ^ (a + (p - 1)) % p = g ^ a % p := fun a => by
    rw [Nat.pow_add, Nat.mul_mod, h1, Nat.mul_one, Nat.mod_mod]
  have inj : ∀ a b, a < b → b < p - 1 → g ^ a % p ≠ g ^ b % p := fun a b hab hb e => by
    refine ho (b - a) (by omega) (by omega) ?_
    have e2 : g ^ a * g ^ (p - 1 - a) % p = g ^ b * g ^ (p - 1 - a) % p := by rw [Nat.mul_mod, e, ← Nat.mul_mod]
    rw [← Nat.pow_add, ← Nat.pow_add, show a + (p - 1 - a) = p - 1 by omega, h1, show b + (p - 1 - a) = b - a + (p - 1) by omega, turn] at e2
    exact e2.symm
  have pos : ∀ a, a < p - 1 → 1 ≤ g ^ a % p := fun a ha => by
    rcases Nat.eq_zero_or_pos (g ^ a % p) with z | z
    · exfalso
      have : g ^ a * g ^ (p - 1 - a) % p = 0 := by rw [Nat.mul_mod, z, Nat.zero_mul, Nat.zero_mod]
      rw [← Nat.pow_add, show a + (p - 1 - a) = p - 1 by omega, h1] at this
      omega
    · exact z
  have all : ∀ x, 1 ≤ x → x < p → ∃ k, k < p - 1 ∧ g ^ k % p = x := fun x x1 x2 => by
    have := nodup_all (l := (List.range (p - 1)).map fun k => g ^ k % p) (m := List.range' 1 (p - 1)) ?_ ?_ (by simp) x (by rw [List.mem_range'_1]; omega)
    · obtain ⟨k, hk, e⟩ := List.mem_map.mp this
      exact ⟨k, List.mem_range.mp hk, e⟩
    · refine List.pairwise_map.mpr (List.Pairwise.imp_of_mem (fun ha hb hab e => ?_) List.pairwise_lt_range)
      exact inj _ _ hab (List.mem_range.mp hb) e
    · intro y hy
      obtain ⟨k, hk, e⟩ := List.mem_map.mp hy
      have := pos k (List.mem_range.mp hk)
      have := Nat.mod_lt (g ^ k) (show 0 < p by omega)
      rw [List.mem_range'_1]
      omega
  obtain ⟨s, hs, es⟩ := all seed s1 s2
  obtain ⟨k, hk, ek⟩ := all r r1 r2
  have step : ∀ t, seed * g ^ t % p = g ^ (s + t) % p := fun t => by
    rw [← es, Nat.pow_add, Nat.mul_mod, Nat.mod_mod, ← Nat.mul_mod]
  rcases Nat.lt_or_ge s k with c | c
  · exact ⟨k - s, by omega, by omega, by rw [step, show s + (k - s) = k by omega, ek]⟩
  · exact ⟨k + (p - 1) - s, by omega, by omega, by rw [step, show s + (k + (p - 1) - s) = k + (p - 1) by omega, turn, ek]⟩
end
/-- powers, bit by bit -/
def pb (g p : Nat) : List Bool → Nat
  | [] => 1 % p
  | b :: bs => let s := pb g p bs; let q := s * s % p; if b then q * g % p else q
def bv : List Bool → Nat
  | [] => 0
  | b :: bs => 2 * bv bs + if b then 1 else 0
theorem pb_eq (g p : Nat) : ∀ bs, pb g p bs = g ^ bv bs % p
  | [] => by simp [pb, bv]
  | b :: bs => by
    have ih := pb_eq g p bs
    have e : g ^ (2 * bv bs) % p = (g ^ bv bs % p) * (g ^ bv bs % p) % p := by
      rw [Nat.two_mul, Nat.pow_add, Nat.mul_mod]
    cases b with
    | false =>
      show pb g p bs * pb g p bs % p = _
      rw [ih, bv, if_neg (by decide), Nat.add_zero, e]
    | true =>
      show pb g p bs * pb g p bs % p * g % p = _
      rw [ih, bv, if_pos rfl, Nat.pow_succ, ← e, Nat.mul_mod, Nat.mod_mod, ← Nat.mul_mod]
def bits : Nat → Nat → List Bool
  | 0, _ => []
  | f + 1, n => (n % 2 == 1) :: bits f (n / 2)
def G : Nat := 48271
def M : Nat := 2147483647
theorem ord_M : ∀ d, 1 ≤ d → d < M - 1 → G ^ d % M ≠ 1 := by
  have full : G ^ (M - 1) % M = 1 := by
    have := pb_eq G M (bits 32 (M - 1))
    rw [show bv (bits 32 (M - 1)) = M - 1 by decide +kernel] at this
    rw [← this]; decide +kernel
  have h : ∀ a b, G ^ a % M = 1 → G ^ (a + b) % M = 1 → G ^ b % M = 1 := fun a b h1 h2 => by
    rw [Nat.pow_add, Nat.mul_mod, h1, Nat.one_mul, Nat.mod_mod] at h2; exact h2
  have hmul : ∀ a k, G ^ a % M = 1 → G ^ (a * k) % M = 1 := fun a k h1 => by
    induction k with
    | zero => rw [Nat.mul_zero, Nat.pow_zero]; decide
    | succ k ih => rw [Nat.mul_succ, Nat.pow_add, Nat.mul_mod, ih, h1]; decide
  have no : ∀ q, q ∈ [2, 3, 7, 11, 31, 151, 331] → G ^ ((M - 1) / q) % M ≠ 1 := fun q hq => by
    have := pb_eq G M (bits 32 ((M - 1) / q))
    have e : bv (bits 32 ((M - 1) / q)) = (M - 1) / q ∧ pb G M (bits 32 ((M - 1) / q)) ≠ 1 := by
      have : ∀ q ∈ [2, 3, 7, 11, 31, 151, 331], bv (bits 32 ((M - 1) / q)) = (M - 1) / q ∧ pb G M (bits 32 ((M - 1) / q)) ≠ 1 := by decide +kernel
      exact this q hq
    rw [e.1] at this
    rw [← this]; exact e.2
  intro d h1 h2 hd
  have he := pow_gcd h (by decide) d (M - 1) hd full
  obtain ⟨k, hk⟩ := Nat.gcd_dvd_right d (M - 1)
  have hle : Nat.gcd d (M - 1) ≤ d := Nat.le_of_dvd h1 (Nat.gcd_dvd_left ..)
  have hk1 : k ≠ 1 := by
    rintro rfl
    rw [Nat.mul_one] at hk
    omega
  generalize Nat.gcd d (M - 1) = e at he hk hle
  have hdv : k ∣ M - 1 := ⟨e, by rw [hk, Nat.mul_comm]⟩
  have pr : ∀ q ∈ [2, 3, 7, 11, 31, 151, 331], ∀ x, x ∣ q → x = 1 ∨ x = q := by
    have : ∀ q ∈ [2, 3, 7, 11, 31, 151, 331], ∀ x, x < 332 → x ∣ q → x = 1 ∨ x = q := by decide +kernel
    intro q hq x hx
    have h0 : ∀ q ∈ [2, 3, 7, 11, 31, 151, 331], 0 < q ∧ q < 332 := by decide
    exact this q hq x (Nat.lt_of_le_of_lt (Nat.le_of_dvd (h0 q hq).1 hx) (h0 q hq).2) hx
  have key : ∀ q ∈ [2, 3, 7, 11, 31, 151, 331], ¬ q ∣ k := fun q hq ⟨c, hc⟩ => by
    refine no q hq ?_
    have h0 : 0 < q := by
      have h0 : ∀ q ∈ [2, 3, 7, 11, 31, 151, 331], 0 < q := by decide
      exact h0 q hq
    have : (M - 1) / q = e * c := by
      rw [hk, hc, ← Nat.mul_assoc, Nat.mul_right_comm, Nat.mul_div_cancel _ h0]
    rw [this]
    exact hmul e c he
  have cut : ∀ q ∈ [2, 3, 7, 11, 31, 151, 331], ∀ m, k ∣ q * m → k ∣ m := fun q hq m hm => by
    refine Nat.Coprime.dvd_of_dvd_mul_left ?_ hm
    rcases pr q hq _ (Nat.gcd_dvd_right k q) with z | z
    · exact z
    · exact absurd (z ▸ Nat.gcd_dvd_left k q) (key q hq)
  have e1 : M - 1 = 2 * (3 * (3 * (7 * (11 * (31 * (151 * (331 * 1))))))) := by decide
  rw [e1] at hdv
  have := cut 331 (by decide) _ (cut 151 (by decide) _ (cut 31 (by decide) _ (cut 11 (by decide) _ (cut 7 (by decide) _ (cut 3 (by decide) _ (cut 3 (by decide) _ (cut 2 (by decide) _ hdv)))))))
  exact hk1 (Nat.dvd_one.mp this)
theorem cover_M (seed r : Nat) (s1 : 1 ≤ seed) (s2 : seed < M) (r1 : 1 ≤ r) (r2 : r < M) : ∃ t, 1 ≤ t ∧ t ≤ M - 1 ∧ seed * G ^ t % M = r := by
  refine cover (by decide) ?_ ord_M seed r s1 s2 r1 r2
  have := pb_eq G M (bits 32 (M - 1))
  rw [show bv (bits 32 (M - 1)) = M - 1 by decide +kernel] at this
  rw [← this]; decide +kernel
end T60

namespace T60
open PySem PySem.Spec PyProof.Rows L2 Dw
open PySem.W (Datum Tup)

/-- the numbers that are drawn, and the places found -/
def nw (seed : Nat) : Nat → Nat
  | 0 => seed
  | t + 1 => nw seed t * 48271 % 2147483647
theorem nw_eq (seed : Nat) (hs : seed < M) : ∀ t, nw seed t = seed * G ^ t % M
  | 0 => by rw [Nat.pow_zero, Nat.mul_one, Nat.mod_eq_of_lt hs]; rfl
  | t + 1 => by
    rw [nw, nw_eq seed hs t, Nat.pow_succ, ← Nat.mul_assoc]
    show seed * G ^ t % M * G % M = _
    rw [Nat.mul_mod, Nat.mod_mod, ← Nat.mul_mod]
def fd (seed many : Nat) : Nat → List Nat
  | 0 => []
  | t + 1 => if nw seed (t + 1) % many ∈ fd seed many t then fd seed many t else fd seed many t ++ [nw seed (t + 1) % many]
theorem fd_nodup (seed many : Nat) : ∀ t, (fd seed many t).Nodup
  | 0 => List.nodup_nil
  | t + 1 => by
    rw [fd]
    split
    · exact fd_nodup seed many t
    · rename_i h
      rw [List.nodup_append]
      refine ⟨fd_nodup seed many t, by simp, fun a ha b hb e => h ?_⟩
      rw [List.mem_singleton] at hb
      rw [← hb, ← e]; exact ha
theorem fd_lt {seed many : Nat} (hm : 0 < many) : ∀ t, ∀ x ∈ fd seed many t, x < many
  | 0, x, h => by simp [fd] at h
  | t + 1, x, h => by
    rw [fd] at h
    split at h
    · exact fd_lt hm t x h
    · rcases List.mem_append.mp h with h | h
      · exact fd_lt hm t x h
      · rw [List.mem_singleton] at h
        subst h; exact Nat.mod_lt _ hm
theorem fd_pre (seed many : Nat) : ∀ {s t : Nat}, s ≤ t → ∃ r, fd seed many t = fd seed many s ++ r := by
  intro s t h
  induction h with
  | refl => exact ⟨[], by simp⟩
  | @step t h ih =>
    obtain ⟨r, e⟩ := ih
    rw [fd]
    split
    · exact ⟨r, e⟩
    · exact ⟨r ++ [nw seed (t + 1) % many], by rw [e, List.append_assoc]⟩
theorem fd_mem (seed many t : Nat) : nw seed (t + 1) % many ∈ fd seed many (t + 1) := by
  rw [fd]
  split
  · assumption
  · simp
theorem fd_len {seed many : Nat} (hm : 0 < many) (t : Nat) : (fd seed many t).length ≤ many := by
  have := nodup_le (fd seed many t) (List.range many) (fd_nodup _ _ _) fun x hx => List.mem_range.mpr (fd_lt hm t x hx)
  rwa [List.length_range] at this
theorem fd_full {seed many : Nat} (s1 : 1 ≤ seed) (s2 : seed < M) (hm : 0 < many) (h2 : many < M) : many ≤ (fd seed many (M - 1)).length := by
  have h := nodup_le (List.range many) (fd seed many (M - 1)) List.nodup_range fun x hx => by
    rw [List.mem_range] at hx
    have key : ∀ r, 1 ≤ r → r < M → r % many = x → x ∈ fd seed many (M - 1) := fun r r1 r2 e => by
      obtain ⟨t, t1, t2, et⟩ := cover_M seed r s1 s2 r1 r2
      obtain ⟨u, rfl⟩ : ∃ u, t = u + 1 := ⟨t - 1, by omega⟩
      have := fd_mem seed many u
      rw [nw_eq seed s2, et, e] at this
      obtain ⟨q, hq⟩ := fd_pre seed many t2
      rw [hq]; exact List.mem_append_left _ this
    rcases Nat.eq_zero_or_pos x with z | z
    · exact key many hm h2 (by rw [Nat.mod_self, z])
    · exact key x z (by omega) (Nat.mod_eq_of_lt hx)
  rwa [List.length_range] at h
def nD (x : Nat) : D := .int (x : Nat)
theorem any_nats (ns : List Nat) (x : Nat) : ((ns.map nD).any fun d => PyData.eqv d (.int (x : Nat))) = decide (x ∈ ns) := by
  rw [show ns.map nD = (ns.map fun x => ((x : Nat) : Int)).map PyData.int by rw [List.map_map]; rfl, Dw.any_ints]
  refine decide_eq_decide.mpr ⟨fun h => ?_, fun h => List.mem_map.mpr ⟨x, h, rfl⟩⟩
  obtain ⟨y, hy, e⟩ := List.mem_map.mp h
  have : y = x := by omega
  exact this ▸ hy
theorem eqv_nats (a b : List Nat) : PyData.eqv (.tuple (a.map nD)) (.tuple (b.map nD)) = decide (a = b) := by
  have e : ∀ a : List Nat, a.map nD = (a.map fun x => ((x : Nat) : Int)).map PyData.int := fun a => by rw [List.map_map]; rfl
  rw [e, e, eqv_tints]
  refine decide_eq_decide.mpr ⟨fun h => ?_, fun h => by rw [h]⟩
  exact (List.map_inj_right fun x y (h : ((x : Nat) : Int) = y) => by omega).mp h
/-- when the draws end -/
def Ends (seed many draws t : Nat) : Prop := min draws many ≤ (fd seed many t).length ∧ ∀ s, s < t → (fd seed many s).length < min draws many
theorem Ends.uniq {seed many draws t u : Nat} (h : Ends seed many draws t) (k : Ends seed many draws u) : t = u := by
  rcases Nat.lt_trichotomy t u with c | c | c
  · have := k.2 t c; have := h.1; omega
  · exact c
  · have := h.2 u c; have := k.1; omega
theorem Ends.len {seed many draws t : Nat} (hm : 0 < many) (h : Ends seed many draws t) : (fd seed many t).length = min draws many := by
  cases t with
  | zero =>
    have := h.1
    simp only [fd, List.length_nil] at this ⊢
    omega
  | succ t =>
    have h1 := h.1
    have h2 := h.2 t (by omega)
    rw [fd] at h1 ⊢
    split at h1
    · omega
    · rename_i c
      rw [if_neg c]
      rw [List.length_append, List.length_singleton] at h1 ⊢
      omega
theorem drawn_ok (seed many draws : Nat) {P : D → Prop} (s1 : 1 ≤ seed) (s2 : seed < M) (hm : 0 < many) (h2 : many ≤ 1000)
    (h : ∀ t, Ends seed many draws t → P (.tuple ((fd seed many t).map nD))) : wp_drawn [.d (.int seed), .d (.int many), .d (.int draws)] P := by
  refine ⟨show 0 ≤ sizeLine by decide, _, rfl, fun m ρ => ∃ (t : Nat) (x : Option Ent), ρ = [some (.d (.int seed)), some (.d (.int many)), some (.d (.int draws)), some (.own ((fd seed many t).map nD)), some (.d (.int (nw seed t))), x] ∧
    t ≤ M - 1 ∧ m = M - 1 - t ∧ ∀ s, s < t → (fd seed many s).length < min draws many, ⟨_, 0, none, rfl, Nat.zero_le _, rfl, fun s hs => absurd hs (Nat.not_lt_zero _)⟩, ?_⟩
  rintro m ρ ⟨t, x, rfl, ht, hm2, hb⟩
  refine ⟨_, rfl, _, rfl, _, rfl, _, rfl, ?_⟩
  have e1 : decide ((((fd seed many t).map nD).length : Int) < min (draws : Int) (many : Int)) = decide ((fd seed many t).length < min draws many) := by
    rw [List.length_map]; exact decide_eq_decide.mpr (by omega)
  refine go_if (fun h1 => ?_) (fun h1 => ?_)
  · have h1 : (fd seed many t).length < min draws many := of_decide_eq_true (e1.symm.trans h1)
    have htl : t < M - 1 := by
      rcases Nat.lt_or_ge t (M - 1) with c | c
      · exact c
      · have : t = M - 1 := by omega
        subst this
        have := fd_full s1 s2 hm (by unfold M; omega)
        omega
    have em : ((nw seed t : Nat) : Int) * 48271 % 2147483647 = (nw seed (t + 1) : Nat) := by
      rw [nw]; omega
    refine ⟨_, rfl, .inl (.inr (by decide)), by decide, _, rfl, _, rfl, by omega, _, rfl, _, rfl, ?_, _, rfl, ?_⟩
    · show min (PyData.depthAll ((fd seed many t).map nD)) (PyData.int _).depth ≤ 100
      rw [depth_int]; omega
    · have e2 : ((nw seed t : Nat) : Int) * 48271 % 2147483647 % (many : Int) = ((nw seed (t + 1) % many : Nat) : Int) := by rw [em]; omega
      show (if (!((fd seed many t).map nD).any fun z => PyData.eqv z (.int (((nw seed t : Nat) : Int) * 48271 % 2147483647 % (many : Int)))) = true then _ else _)
      rw [e2, any_nats]
      have nx : ∀ y : Option Ent, t + 1 ≤ M - 1 ∧ (∀ s, s < t + 1 → (fd seed many s).length < min draws many) := fun y => ⟨by omega, fun s hs => by
        rcases Nat.lt_or_ge s t with c | c
        · exact hb s c
        · have : s = t := by omega
          subst this; exact h1⟩
      refine go_if (fun h3 => ?_) (fun h3 => ?_)
      · have h3 : ¬ nw seed (t + 1) % many ∈ fd seed many t := by simpa using h3
        refine ⟨_, rfl, _, rfl, ?_, M - 1 - (t + 1), by omega, t + 1, some (.d (.int (nw seed (t + 1) % many : Nat))), ?_, (nx none).1, rfl, (nx none).2⟩
        · rw [List.length_map]
          have := fd_len (seed := seed) hm t
          exact Nat.lt_of_le_of_lt this (Nat.lt_of_le_of_lt h2 (by decide))
        · rw [← e2, ← em, fd, if_neg h3, List.map_append]
          show _ = [_, _, _, some (Ent.own ((fd seed many t).map nD ++ [nD (nw seed (t + 1) % many)])), _, _]
          rw [show nD (nw seed (t + 1) % many) = .int (((nw seed t : Nat) : Int) * 48271 % 2147483647 % (many : Int)) by rw [e2]; rfl]
          rfl
      · have h3 : nw seed (t + 1) % many ∈ fd seed many t := by simpa using h3
        refine ⟨M - 1 - (t + 1), by omega, t + 1, some (.d (.int (nw seed (t + 1) % many : Nat))), ?_, (nx none).1, rfl, (nx none).2⟩
        rw [← e2, ← em, fd, if_pos h3]
        rfl
  · have h1 : ¬ (fd seed many t).length < min draws many := of_decide_eq_false (e1.symm.trans h1)
    exact ⟨_, rfl, h t ⟨by omega, hb⟩⟩
theorem law_drawn_ok (seed many draws : Nat) {P : D → Prop} (s1 : 1 ≤ seed) (s2 : seed < M) (hm : 0 < many) (h2 : many ≤ 1000)
    (h : ∀ t, Ends seed many draws t → P (.tuple ((fd seed many t).map nD))) : wp__law_drawn [.d (.int seed), .d (.int many), .d (.int draws)] P := by
  refine ⟨show 0 ≤ sizeLine by decide, _, rfl, fun m ρ => ∃ (t : Nat), ρ = [some (.d (.int seed)), some (.d (.int many)), some (.d (.int draws)), some (.own ((fd seed many t).map nD)), some (.d (.int (nw seed t)))] ∧
    t ≤ M - 1 ∧ m = M - 1 - t ∧ ∀ s, s < t → (fd seed many s).length < min draws many, ⟨_, 0, rfl, Nat.zero_le _, rfl, fun s hs => absurd hs (Nat.not_lt_zero _)⟩, ?_⟩
  rintro m ρ ⟨t, rfl, ht, hm2, hb⟩
  refine ⟨_, rfl, _, rfl, _, rfl, _, rfl, ?_⟩
  have e1 : decide ((((fd seed many t).map nD).length : Int) < min (draws : Int) (many : Int)) = decide ((fd seed many t).length < min draws many) := by
    rw [List.length_map]; exact decide_eq_decide.mpr (by omega)
  refine go_if (fun h1 => ?_) (fun h1 => ?_)
  · have h1 : (fd seed many t).length < min draws many := of_decide_eq_true (e1.symm.trans h1)
    have htl : t < M - 1 := by
      rcases Nat.lt_or_ge t (M - 1) with c | c
      · exact c
      · have : t = M - 1 := by omega
        subst this
        have := fd_full s1 s2 hm (by unfold M; omega)
        omega
    have em : ((nw seed t : Nat) : Int) * 48271 % 2147483647 = (nw seed (t + 1) : Nat) := by
      rw [nw]; omega
    refine ⟨_, rfl, .inl (.inr (by decide)), by decide, _, rfl, _, rfl, by omega, _, rfl, ?_, _, rfl, ?_⟩
    · show min (PyData.depthAll ((fd seed many t).map nD)) (PyData.int _).depth ≤ 100
      rw [depth_int]; omega
    · have e2 : ((nw seed t : Nat) : Int) * 48271 % 2147483647 % (many : Int) = ((nw seed (t + 1) % many : Nat) : Int) := by rw [em]; omega
      show (if (!((fd seed many t).map nD).any fun z => PyData.eqv z (.int (((nw seed t : Nat) : Int) * 48271 % 2147483647 % (many : Int)))) = true then _ else _)
      rw [e2, any_nats]
      have nx : ∀ y : Option Ent, t + 1 ≤ M - 1 ∧ (∀ s, s < t + 1 → (fd seed many s).length < min draws many) := fun y => ⟨by omega, fun s hs => by
        rcases Nat.lt_or_ge s t with c | c
        · exact hb s c
        · have : s = t := by omega
          subst this; exact h1⟩
      refine go_if (fun h3 => ?_) (fun h3 => ?_)
      · have h3 : ¬ nw seed (t + 1) % many ∈ fd seed many t := by simpa using h3
        refine ⟨_, rfl, _, rfl, _, rfl, by omega, ?_, M - 1 - (t + 1), by omega, t + 1, ?_, (nx none).1, rfl, (nx none).2⟩
        · rw [List.length_map]
          have := fd_len (seed := seed) hm t
          exact Nat.lt_of_le_of_lt this (Nat.lt_of_le_of_lt h2 (by decide))
        · rw [← em, fd, if_neg h3, List.map_append]
          show _ = [_, _, _, some (Ent.own ((fd seed many t).map nD ++ [nD (nw seed (t + 1) % many)])), _]
          rw [show nD (nw seed (t + 1) % many) = .int (((nw seed t : Nat) : Int) * 48271 % 2147483647 % (many : Int)) by rw [e2]; rfl]
          rfl
      · have h3 : nw seed (t + 1) % many ∈ fd seed many t := by simpa using h3
        refine ⟨M - 1 - (t + 1), by omega, t + 1, ?_, (nx none).1, rfl, (nx none).2⟩
        rw [← em, fd, if_pos h3]
        rfl
  · have h1 : ¬ (fd seed many t).length < min draws many := of_decide_eq_false (e1.symm.trans h1)
    exact ⟨_, rfl, h t ⟨by omega, hb⟩⟩
end T60

namespace T60
open PySem PySem.Spec PyProof.Rows L2 Dw
open PySem.W (Datum Tup)

theorem tk (m : Int) (k : Nat) {P : D → Prop} (e : m = (k : Int)) (hk : k < 2 ^ 62) (h : ∀ r : Nat, r < max k 1 → P (.int r)) : wp__law_take [.st, .d (.int m)] P := take_ok m k e hk h
theorem ex27 (ρ : Dw.Env) (h : ρ.length = 27) : ∃ a0 a1 a2 a3 a4 a5 a6 a7 a8 a9 a10 a11 a12 a13 a14 a15 a16 a17 a18 a19 a20 a21 a22 a23 a24 a25 a26, ρ = [a0, a1, a2, a3, a4, a5, a6, a7, a8, a9, a10, a11, a12, a13, a14, a15, a16, a17, a18, a19, a20, a21, a22, a23, a24, a25, a26] := by
  match ρ, h with
  | [a0, a1, a2, a3, a4, a5, a6, a7, a8, a9, a10, a11, a12, a13, a14, a15, a16, a17, a18, a19, a20, a21, a22, a23, a24, a25, a26], _ =>
    exact ⟨a0, a1, a2, a3, a4, a5, a6, a7, a8, a9, a10, a11, a12, a13, a14, a15, a16, a17, a18, a19, a20, a21, a22, a23, a24, a25, a26, rfl⟩
theorem plain_fr (p : Nat × Nat) : (frD p).plain = true := rfl
theorem depth_fr9 (p : Nat × Nat) : (frD p).depth ≤ 99 := Nat.le_trans (Nat.le_of_eq rfl) (by decide : 1 ≤ 99)
theorem depth_fr (p : Nat × Nat) : (frD p).depth ≤ 100 := Nat.le_trans (depth_fr9 p) (by decide)
theorem plain_lst {α : Type} {f : α → D} (xs : List α) (h : ∀ a, (f a).plain = true) : (PyData.list (xs.map f)).plain = true := by
  rw [PyData.plain]
  induction xs with
  | nil => rfl
  | cons x xs ih => rw [List.map_cons, PyData.plainAll, h x, ih]; rfl
theorem depth_lst {α : Type} {f : α → D} (xs : List α) (h : ∀ a, (f a).depth ≤ 99 ) : (PyData.list (xs.map f)).depth ≤ 100 := by
  rw [PyData.depth]
  have : PyData.depthAll (xs.map f) ≤ 99 := by
    induction xs with
    | nil => exact Nat.zero_le _
    | cons x xs ih => rw [List.map_cons, PyData.depthAll]; exact Nat.max_le.mpr ⟨h x, ih⟩
  omega
theorem first_of (p : Nat → Bool) (n N : Nat) (hn : n < N) (h1 : p n = true) (h2 : ∀ k, k < n → p k = false) : ((List.range N).filter p)[0]? = some n := by
  obtain ⟨m, rfl⟩ : ∃ m, N = n + (m + 1) := ⟨N - n - 1, by omega⟩
  rw [List.range_add, List.filter_append]
  have e : (List.range n).filter p = [] := List.filter_eq_nil_iff.mpr fun k hk => by rw [h2 k (List.mem_range.mp hk)]; decide
  rw [e, List.nil_append, List.range_succ_eq_map, List.map_cons, List.filter_cons_of_pos (by simpa using h1)]
  rfl
theorem plain_tup {α : Type} {f : α → D} (xs : List α) (h : ∀ a, (f a).plain = true) : (PyData.tuple (xs.map f)).plain = true := by
  have := plain_lst xs h
  simp only [PyData.plain] at this ⊢
  exact this
theorem depth_tup {α : Type} {f : α → D} (xs : List α) (h : ∀ a, (f a).depth ≤ 99 ) : (PyData.tuple (xs.map f)).depth ≤ 100 := by
  have := depth_lst xs h
  simp only [PyData.depth] at this ⊢
  exact this
theorem low_count (w : Nat) (r : List Nat) : (((r.map fun x => ((x : Nat) : Int)).filter fun x => decide (x < (w : Int))).length) = low w r := by
  unfold low
  rw [List.filter_map, List.length_map]
  congr 2
  funext x
  exact decide_eq_decide.mpr (show ((x : Nat) : Int) < w ↔ x < w by omega)
def odds : List D := [.none, .int 5, .tuple [.int 1], .list [.int 1, .int 2], .tuple [.int 0, .int 1], .tuple [.int 1, .int 1], .tuple [.int 2, .int 4], .tuple [.int 3, .int 2], .tuple [.int (-1), .int 2], .tuple [.int 1, .bool true], .tuple [.none, .int 2], .tuple [.int 1, .int 1000001]]
theorem odd_ok (x : D) (hx : x ∈ odds) {P : D → Prop} (h : P (.bool false)) : wp_is_limit [.d x] P := by
  have bad : ∀ (u v : D), (∀ p q : Nat, u = .int p → v = .int q → 1 ≤ p → 1 ≤ q → q ≤ 1000000 → (decide (p < q) && decide (fr p q = (p, q))) = false) → wp_is_limit [.d (.tuple [u, v])] P := fun u v k =>
    is_limit_pair u v (fun _ => h) fun p q e1 e2 a b c => by rw [k p q e1 e2 a b c]; exact h
  have wi : ∀ i j : Int, (∀ p q : Nat, i = p → j = q → 1 ≤ p → 1 ≤ q → q ≤ 1000000 → (decide (p < q) && decide (fr p q = (p, q))) = false) → wp_is_limit [.d (.tuple [.int i, .int j])] P := fun i j k =>
    bad _ _ fun p q e1 e2 => k p q (by injection e1) (by injection e2)
  unfold odds at hx
  simp only [List.mem_cons, List.not_mem_nil, or_false] at hx
  rcases hx with rfl | rfl | rfl | rfl | rfl | rfl | rfl | rfl | rfl | rfl | rfl | rfl
  · exact is_limit_not _ rfl h
  · exact is_limit_not _ rfl h
  · exact ⟨_, rfl, _, rfl, go_no rfl ⟨_, rfl, dep0 _ _, _, rfl, go_yes (by rw [eqv_int]; decide) h⟩⟩
  · exact is_limit_not _ rfl h
  · exact wi _ _ fun p q e1 e2 a b c => by omega
  · refine wi _ _ fun p q e1 e2 a b c => ?_
    have hp : p = 1 := by omega
    have hq : q = 1 := by omega
    subst hp; subst hq; decide
  · refine wi _ _ fun p q e1 e2 a b c => ?_
    have hp : p = 2 := by omega
    have hq : q = 4 := by omega
    subst hp; subst hq; decide
  · refine wi _ _ fun p q e1 e2 a b c => ?_
    have hp : p = 3 := by omega
    have hq : q = 2 := by omega
    subst hp; subst hq; decide
  · exact wi _ _ fun p q e1 e2 a b c => by omega
  · exact bad _ _ fun p q e1 e2 a b c => by cases e2
  · exact bad _ _ fun p q e1 e2 a b c => by cases e1
  · exact wi _ _ fun p q e1 e2 a b c => by omega
set_option maxHeartbeats 1000000 in
theorem turn_of {ρ : Dw.Env} (hl : ρ.length = 27) (h1 : ρ[1]? = some (some .st)) : rd_law { nx := fun _ => False, rt := fun d => d = .bool true } ρ := by
  refine ⟨⟨by decide, by decide⟩, ?_⟩
  refine wFor_rng (fun i ρ => ρ.length = 27 ∧ ρ[1]? = some (some .st)) 4 _ ⟨hl, h1⟩ ?_ ?_
  · clear hl h1 ρ
    rintro i ρ hi ⟨hl, h1⟩ K hK
    obtain ⟨a0, a1, a2, a3, a4, a5, a6, a7, a8, a9, a10, a11, a12, a13, a14, a15, a16, a17, a18, a19, a20, a21, a22, a23, a24, a25, a26, rfl⟩ := ex27 ρ hl
    have h1 : a1 = some .st := by injection h1
    subst h1
    show dSeq _ _ _ _
    refine st_set (fun x => ∃ many : Nat, x = .int many ∧ 1 ≤ many ∧ many ≤ 10) (fun K hK => ⟨rfl, tk 10 10 rfl (by decide) fun r hr => hK _ ⟨1 + r, by rw [Int.natCast_add]; rfl, by omega, by omega⟩⟩) ?_
    rintro _ ⟨many, rfl, m1, m2⟩
    simp only [List.set_cons_succ, List.set_cons_zero]
    refine st_asg2 (fun x y => ∃ w d : Nat, x = .int w ∧ y = .int d ∧ w ≤ many ∧ d ≤ many) (fun K hK => ?_) ?_
    · refine ⟨rfl, _, rfl, tk _ (many + 1) (by rw [Int.natCast_add]; rfl) (by omega) fun r hr => ⟨rfl, _, rfl, tk _ (many + 1) (by rw [Int.natCast_add]; rfl) (by omega) fun r2 hr2 => ⟨sz2 _ _, hK _ _ ⟨r, r2, rfl, rfl, by omega, by omega⟩⟩⟩⟩
    rintro _ _ ⟨w, d, rfl, rfl, hw, hd⟩
    simp only [List.set_cons_succ, List.set_cons_zero]
    refine st_set (fun x => x = .list ((lots many d).map rowD)) (fun K hK => ⟨_, rfl, _, rfl, lots_ok many d (by omega) (hK _ rfl)⟩) ?_
    rintro _ rfl
    simp only [List.set_cons_succ, List.set_cons_zero]
    have hlz : (lots many d).length ≤ sizeLine := by
      rw [lots_len]
      refine Nat.le_trans (C_le _ _) (Nat.le_trans (Nat.pow_le_pow_right (by decide) m2) (by decide))
    refine st_setL (fun x => x = (List.range (d + 1)).map fun s => .int ((C w s * C (many - w) (d - s) : Nat) : Int)) (fun K hK => ?_) ?_
    · refine ⟨_, rfl, ⟨by show -(2 ^ 62) ≤ (d : Int) + 1; omega, by show (d : Int) + 1 < 2 ^ 62; omega⟩, ?_⟩
      show wComp _ _ _ _ (rngD 0 ((d : Int) + 1)) _ _
      rw [show (d : Int) + 1 = ((d + 1 : Nat) : Int) by omega]
      refine wComp_rng _ (d + 1) (fun s hs K2 k2 => ⟨_, rfl, ?_⟩) (size_big (by omega)) (hK _ rfl)
      refine wComp_t rowD (fun r => decide (low w r = s)) rowD _ (fun r hr K3 K4 k3 k4 => ?_) hlz ?_
      · have hrl : r.length ≤ many := rows_mem d many r (List.mem_filter.mp hr).1
        refine ⟨_, rfl, ?_⟩
        show wComp _ _ _ _ (r.map fun x => PyData.int ((x : Nat) : Int)) _ _
        refine wComp_t (fun x : Nat => PyData.int ((x : Nat) : Int)) (fun x => decide (x < w)) (fun x => PyData.int ((x : Nat) : Int)) r (fun x hx K5 K6 k5 k6 => ?_) (Nat.le_trans hrl (size_big (by omega))) ?_
        · refine ⟨_, rfl, _, rfl, _, rfl, go_if (fun h => ⟨_, rfl, k5 ?_⟩) (fun h => k6 ?_)⟩
          · have := of_decide_eq_true h
            exact decide_eq_true (by omega)
          · have := of_decide_eq_false h
            exact decide_eq_false (by omega)
        · refine ⟨_, rfl, dep0 _ _, _, rfl, ?_⟩
          rw [eqv_int, List.length_map]
          have e : decide ((((r.filter fun x => decide (x < w)).length : Nat) : Int) = (s : Int)) = decide (low w r = s) := decide_eq_decide.mpr (by unfold low; omega)
          exact go_if (fun h => ⟨_, rfl, k3 (e.symm.trans h)⟩) (fun h => k4 (e.symm.trans h))
      · show K2 (.int _)
        rw [List.length_map, lots_low (by omega) hw]; exact k2
    rintro _ rfl
    simp only [List.set_cons_succ, List.set_cons_zero]
    have hN := C_pos hd
    have hNs : Sm (C many d) := sm_C (by omega)
    have hlots : ∀ n : Nat, n = ((lots many d).map rowD).length → n = C many d := fun n e => by rw [e, List.length_map, lots_len]
    -- the chances
    have chance : ∀ (ρ : Dw.Env) (K : D → Prop), ρ[3]? = some (some (.d (.int many))) → ρ[4]? = some (some (.d (.int w))) → ρ[5]? = some (some (.d (.int d))) → ρ.length = 27 → K (.list ((List.range (d + 1)).map fun s => frD (fr (C w s * C (many - w) (d - s)) (C many d)))) →
        dComp (dRng1 (dOp addD (dVar 5) (dC (.int 1)))) (gN 21) dYes (dCall wp_chance_of (bCons (dVar 3) (bCons (dVar 4) (bCons (dVar 5) (bCons (dVar 21) bNil))))) [21] ρ K := fun ρ K r3 r4 r5 rl k => by
      refine ⟨_, r5, ⟨by show -(2 ^ 62) ≤ (d : Int) + 1; omega, by show (d : Int) + 1 < 2 ^ 62; omega⟩, ?_⟩
      show wComp _ _ _ _ (rngD 0 ((d : Int) + 1)) _ _
      rw [show (d : Int) + 1 = ((d + 1 : Nat) : Int) by omega]
      refine wComp_rng _ (d + 1) (fun s hs K2 k2 => ?_) (size_big (by omega)) k
      have g : ∀ i, i ≠ 21 → ((wipeE ρ [21]).set 21 (some (.d (.int (s : Nat)))))[i]? = ρ[i]? := fun i hi => by
        show ((ρ.set 21 none).set 21 _)[i]? = _
        rw [List.getElem?_set_ne (Ne.symm hi), List.getElem?_set_ne (Ne.symm hi)]
      have g21 : ((wipeE ρ [21]).set 21 (some (.d (.int (s : Nat)))))[21]? = some (some (.d (.int (s : Nat)))) := by
        rw [List.getElem?_set_self]
        show 21 < (ρ.set 21 none).length
        rw [List.length_set, rl]; decide
      exact ⟨_, (g 3 (by decide)).trans r3, _, (g 4 (by decide)).trans r4, _, (g 5 (by decide)).trans r5, _, g21, chance_ok many w d s (by omega) hw hd (by omega) k2⟩
    refine st_if (fun K k => t_ne (fun x => x = .list ((List.range (d + 1)).map fun s => frD (fr (C w s * C (many - w) (d - s)) (C many d)))) (fun K hK => chance _ K rfl rfl rfl rfl (hK _ rfl)) ?_ ?_ k) ?_
    · rintro _ rfl K hK
      refine ⟨_, rfl, ?_⟩
      show wComp _ _ _ _ ((List.range (d + 1)).map fun s => PyData.int ((C w s * C (many - w) (d - s) : Nat) : Int)) _ _
      refine wComp_tm (fun s => PyData.int ((C w s * C (many - w) (d - s) : Nat) : Int)) (fun s => frD (fr (C w s * C (many - w) (d - s)) (C many d))) _ (fun s hs K2 k2 => ?_) (size_big (by rw [List.length_range]; omega)) hK
      refine ⟨_, rfl, _, rfl, part_ok _ _ ?_ ?_ ?_⟩
      · rw [hlots _ rfl]; exact hN
      · rw [hlots _ rfl]; unfold Sm at hNs; omega
      · rw [hlots _ rfl]; exact k2
    · rintro _ rfl
      exact ⟨depth_lst _ (fun s => depth_fr9 _), plain_lst _ (fun s => plain_fr _)⟩
    refine st_if (fun K k => ?_) ?_
    · refine t_ne (fun x => x = frD (fr (C (many - w) d) (C many d))) (fun K hK => ⟨_, rfl, _, rfl, _, rfl, none_ok _ _ _ (by omega) hw hd (hK _ rfl)⟩) ?_ ?_ ?_
      · rintro _ rfl K hK
        refine ⟨_, rfl, _, atI_n (i := 0) (by rw [List.getElem?_map, List.getElem?_range (by omega)]; rfl), _, rfl, part_ok (C w 0 * C (many - w) (d - 0)) _ ?_ ?_ ?_⟩
        · rw [hlots _ rfl]; exact hN
        · rw [hlots _ rfl]; unfold Sm at hNs; omega
        · rw [hlots _ rfl, C_0, Nat.one_mul, Nat.sub_zero]; exact hK
      · rintro _ rfl
        exact ⟨depth_fr _, plain_fr _⟩
      · refine go_no rfl (t_ne (fun x => x = frD (1, 1)) (fun K hK => ?_) ?_ ?_ k)
        · show dComp (dRng1 (dOp addD (dVar 5) (dC (.int 1)))) (gN 21) dYes (dCall wp_chance_of (bCons (dVar 3) (bCons (dVar 4) (bCons (dVar 5) (bCons (dVar 21) bNil))))) [21] _ (fun x => wp_total [.d x] K)
          refine chance _ _ rfl rfl rfl rfl ?_
          have e : ((List.range (d + 1)).map fun s => frD (fr (C w s * C (many - w) (d - s)) (C many d))) = (((List.range (d + 1)).map fun s => C w s * C (many - w) (d - s)).map fun c => frD (fr c (C many d))) := by rw [List.map_map]; rfl
          rw [e]
          refine total_ok _ _ hN hNs (by rw [lots_sum hw]; exact Nat.le_refl _) ?_
          rw [lots_sum hw, fr_self hN]
          exact hK _ rfl
        · rintro _ rfl K hK
          exact ⟨sz2 _ _, hK⟩
        · rintro _ rfl
          exact ⟨depth_fr _, plain_fr _⟩
    refine st_par (fun x y => ∃ (a : Nat) (b : Int), x = .int a ∧ y = .int b ∧ a < 40) (fun K hK => ⟨rfl, tk 40 40 rfl (by decide) fun r hr => ⟨rfl, tk 42 42 rfl (by decide) fun r2 hr2 => hK _ _ ⟨r, (r2 : Int) - 1, rfl, rfl, by omega⟩⟩⟩) ?_
    rintro _ _ ⟨a, b, rfl, rfl, ha⟩
    simp only [List.set_cons_succ, List.set_cons_zero]
    refine st_if (fun K k => t_ne (fun x => x = .int (Ci a b : Nat)) (fun K hK => ⟨_, rfl, _, rfl, choices_ok _ _ (by omega) (hK _ rfl)⟩) ?_ ?_ k) ?_
    · rintro _ rfl K hK
      exact ⟨_, rfl, _, rfl, law_choices_ok _ _ (by omega) hK⟩
    · rintro _ rfl
      exact ⟨Nat.le_trans (Nat.le_of_eq (depth_int _)) (Nat.zero_le _), rfl⟩
    refine st_set (fun x => ∃ q : Nat, x = .int q ∧ 2 ≤ q ∧ q ≤ 31) (fun K hK => ⟨rfl, tk 30 30 rfl (by decide) fun r hr => hK _ ⟨2 + r, by rw [Int.natCast_add]; rfl, by omega, by omega⟩⟩) ?_
    rintro _ ⟨q, rfl, q1, q2⟩
    simp only [List.set_cons_succ, List.set_cons_zero]
    refine st_set (fun x => ∃ p : Nat, x = frD (fr p q) ∧ 1 ≤ p ∧ p < q) (fun K hK => ⟨rfl, _, rfl, tk _ (q - 1) (show (q : Int) - 1 = _ by omega) (by omega) fun r hr => ⟨_, rfl, ?_⟩⟩) ?_
    · show wp_part [.d (.int ((1 : Int) + (r : Nat))), .d (.int (q : Nat))] K
      rw [show (1 : Int) + (r : Nat) = ((1 + r : Nat) : Int) by omega]
      exact part_ok _ _ (by omega) (Nat.lt_of_le_of_lt (log2_mono (show q ≤ 2 ^ 12 by omega)) (by decide)) (hK _ ⟨1 + r, rfl, by omega, by omega⟩)
    rintro _ ⟨p, rfl, p1, p2⟩
    simp only [List.set_cons_succ, List.set_cons_zero]
    have hq0 : 0 < q := by omega
    have sp : Sm (fr p q).1 := sm_le (fr_le _ _).1 (sm_lt (by omega))
    have sq : Sm (fr p q).2 := sm_le (fr_le _ _).2 (sm_lt (by omega))
    refine st_set (fun x => ∃ g : Nat, x = .int g ∧ 1 ≤ g ∧ g ≤ 3000) (fun K hK => ⟨rfl, _, rfl, show 4 ≤ sizeLine by decide, pick_ok _ (show 0 < 4 by decide) (show 4 < 1000 by decide) fun x hx => ?_⟩) ?_
    · have hx : x ∈ [PyData.int (many : Nat), .int 30, .int 200, .int 3000] := hx
      simp only [List.mem_cons, List.not_mem_nil, or_false] at hx
      rcases hx with rfl | rfl | rfl | rfl
      · exact hK _ ⟨many, rfl, m1, by omega⟩
      · exact hK _ ⟨30, rfl, by omega, by omega⟩
      · exact hK _ ⟨200, rfl, by omega, by omega⟩
      · exact hK _ ⟨3000, rfl, by omega, by omega⟩
    rintro _ ⟨g, rfl, g1, g2⟩
    simp only [List.set_cons_succ, List.set_cons_zero]
    refine st_set (fun x => ∃ b : Nat, x = .int b ∧ 1 ≤ b ∧ b ≤ g) (fun K hK => ⟨rfl, _, rfl, tk _ g rfl (by omega) fun r hr => hK _ ⟨1 + r, by rw [Int.natCast_add]; rfl, by omega, by omega⟩⟩) ?_
    rintro _ ⟨b, rfl, b1, b2⟩
    simp only [List.set_cons_succ, List.set_cons_zero]
    refine st_set (fun x => ∃ n : Nat, x = .int n ∧ n ≤ g - b + 1 ∧ ¬ (fr p q).1 * C g n < C (g - b) n * (fr p q).2 ∧ ∀ k, k < n → (fr p q).1 * C g k < C (g - b) k * (fr p q).2) (fun K hK => ⟨_, rfl, _, rfl, _, rfl, draws_needed_ok g b _ _ g2 b1 b2 sp sq fun n n1 n2 n3 => hK _ ⟨n, rfl, n1, n2, n3⟩⟩) ?_
    rintro _ ⟨n, rfl, n1, n2, n3⟩
    simp only [List.set_cons_succ, List.set_cons_zero]
    obtain ⟨f, hf⟩ : ∃ f : Nat → Bool, ∀ k, f k = decide ((fr p q).1 * C g k < C (g - b) k * (fr p q).2) := ⟨_, fun _ => rfl⟩
    have f2 : f n = false := by rw [hf]; exact decide_eq_false n2
    have f3 : ∀ k, k < n → f k = true := fun k hk => by rw [hf]; exact decide_eq_true (n3 k hk)
    have less : ∀ (k : Nat) (K : D → Prop), k ≤ g → K (.bool (f k)) → wp_chance_of_none [.d (.int g), .d (.int b), .d (.int k)] fun y => wp_is_less [.d (frD (fr p q)), .d y] K := fun k K hk h => by
      refine none_ok g b k g2 b2 hk (is_less_ok _ _ sp sq (sm_le (fr_le _ _).1 (sm_C (by omega))) (sm_le (fr_le _ _).2 (sm_C g2)) ?_)
      rw [decide_eq_decide.mpr (fr_less (C_pos hk)), ← hf]
      exact h
    clear hf n2 n3
    refine st_if (fun K k => ?_) ?_
    · refine ⟨_, rfl, is_limit_fr p q p1 p2 (by omega) ⟨_, rfl, go_no rfl ?_⟩⟩
      refine ⟨_, rfl, _, rfl, _, rfl, _, rfl, less n _ (by omega) ⟨_, rfl, go_no f2 ?_⟩⟩
      refine ⟨_, rfl, _, rfl, go_if (fun h => ?_) (fun h => k)⟩
      have h : (0 : Int) < n := of_decide_eq_true h
      refine ⟨_, rfl, _, rfl, _, rfl, _, rfl, ?_⟩
      show wp_chance_of_none [.d (.int g), .d (.int b), .d (.int ((n : Int) - 1))] _
      rw [show (n : Int) - 1 = ((n - 1 : Nat) : Int) by omega]
      refine less (n - 1) _ (by omega) ⟨_, rfl, ?_⟩
      rw [f3 (n - 1) (by omega)]
      exact k
    refine st_if (fun K k => ?_) ?_
    · refine ⟨_, rfl, _, rfl, go_if (fun h => ?_) (fun h => k)⟩
      refine ⟨_, rfl, _, rfl, ⟨?_, ?_⟩, ?_⟩
      · show -(2 ^ 62) ≤ (g : Int) - b + 2
        omega
      · show (g : Int) - b + 2 < 2 ^ 62
        omega
      · show wComp _ _ _ _ (rngD 0 ((g : Int) - b + 2)) _ _
        rw [show (g : Int) - b + 2 = ((g - b + 2 : Nat) : Int) by omega]
        refine wComp_rngT (fun k => !f k) (fun k => .int (k : Nat)) _ (fun i hi K1 K2 k1 k2 => ?_) (size_big (by omega)) ?_
        · refine ⟨_, rfl, _, rfl, _, rfl, _, rfl, less i _ (by omega) ⟨_, rfl, ?_⟩⟩
          exact go_if (fun h => ⟨_, rfl, k1 h⟩) (fun h => k2 h)
        · have f := first_of (fun k => !f k) n (g - b + 2) (by omega) (by rw [f2]; rfl) (fun k hk => by rw [f3 k hk]; rfl)
          refine ⟨_, atI_n (i := 0) (by rw [List.getElem?_map, f]; rfl), _, rfl, dep0 _ _, _, rfl, ?_⟩
          rw [eqv_int, decide_eq_true rfl]
          exact k
    refine st_set (fun x => ∃ m : Nat, x = .int m ∧ 1 ≤ m ∧ m ≤ g) (fun K hK => ⟨rfl, _, rfl, tk _ g rfl (by omega) fun r hr => hK _ ⟨r + 1, by rw [Int.natCast_add]; rfl, by omega, by omega⟩⟩) ?_
    rintro _ ⟨m, rfl, mg1, mg2⟩
    simp only [List.set_cons_succ, List.set_cons_zero]
    refine st_set (fun x => x = .int (((m + 1) / 2 : Nat) : Int)) (fun K hK => ?_) ?_
    · refine ⟨_, rfl, ⟨?_, ?_⟩, ?_⟩
      · show -(2 ^ 62) ≤ (m : Int) + 1
        omega
      · show (m : Int) + 1 < 2 ^ 62
        omega
      · show wComp _ _ _ _ (rngD 0 ((m : Int) + 1)) _ _
        rw [show (m : Int) + 1 = ((m + 1 : Nat) : Int) by omega]
        refine wComp_rngT (fun k => decide (m ≤ 2 * k)) (fun k => .int (k : Nat)) _ (fun i hi K1 K2 k1 k2 => ?_) (size_big (by omega)) ?_
        · have e : decide (((m : Int) - 2 * i) ≤ 0) = decide (m ≤ 2 * i) := decide_eq_decide.mpr (by omega)
          exact ⟨_, rfl, _, rfl, .inl (.inl (by decide)), _, rfl, go_if (fun h => ⟨_, rfl, k1 (e.symm.trans h)⟩) (fun h => k2 (e.symm.trans h))⟩
        · have f := first_of (fun k => decide (m ≤ 2 * k)) ((m + 1) / 2) (m + 1) (by omega) (decide_eq_true (by omega)) (fun k hk => decide_eq_false (by omega))
          exact ⟨_, atI_n (i := 0) (by rw [List.getElem?_map, f]; rfl), hK _ rfl⟩
    rintro _ rfl
    simp only [List.set_cons_succ, List.set_cons_zero]
    have mn : ∀ a : Nat, min (a : Int) (g : Int) = ((min a g : Nat) : Int) := fun a => by omega
    refine st_if (fun K k => ?_) ?_
    · refine t_ne (fun x => x = .int (((m + 1) / 2 : Nat) : Int)) (fun K hK => ⟨_, rfl, wrong_needed_ok m (hK _ rfl)⟩) ?_ ?_ (go_no rfl ?_)
      · rintro _ rfl K hK
        exact ⟨_, rfl, hK⟩
      · rintro _ rfl
        exact ⟨Nat.le_trans (Nat.le_of_eq (depth_int _)) (Nat.zero_le _), rfl⟩
      · refine t_ne (fun x => x = frD (fr (C (g - (m + 1) / 2) (min 5 g)) (C g (min 5 g)))) (fun K hK => ⟨_, rfl, _, rfl, _, rfl, ?_⟩) ?_ ?_ k
        · show wp_risk [.d (.int g), .d (.int m), .d (.int (min ((5 : Nat) : Int) (g : Int)))] K
          rw [mn]
          exact risk_ok g m _ g2 (by omega) (by omega) (hK _ rfl)
        · rintro _ rfl K hK
          refine ⟨_, rfl, _, rfl, _, rfl, ?_⟩
          show wp_chance_of_none [.d (.int g), .d (.int (((m + 1) / 2 : Nat) : Int)), .d (.int (min ((5 : Nat) : Int) (g : Int)))] K
          rw [mn]
          exact none_ok g _ _ g2 (by omega) (by omega) hK
        · rintro _ rfl
          exact ⟨depth_fr _, plain_fr _⟩
    refine st_if (fun K k => ?_) ?_
    · refine ⟨_, rfl, _, rfl, _, rfl, go_if (fun h => ?_) (fun h => k)⟩
      have h : (b : Int) < g := of_decide_eq_true h
      refine ⟨_, rfl, _, rfl, _, rfl, ?_⟩
      show wp_chance_of_none [.d (.int g), .d (.int b), .d (.int (min ((9 : Nat) : Int) (g : Int)))] _
      rw [mn]
      refine none_ok g b _ g2 b2 (by omega) ⟨_, rfl, _, rfl, _, rfl, ?_⟩
      show wp_chance_of_none [.d (.int g), .d (.int ((b : Int) + 1)), .d (.int (min ((9 : Nat) : Int) (g : Int)))] _
      rw [mn, show (b : Int) + 1 = ((b + 1 : Nat) : Int) by omega]
      refine none_ok g (b + 1) _ g2 (by omega) (by omega) (is_less_ok _ _ (sm_le (fr_le _ _).1 (sm_C (by omega))) (sm_le (fr_le _ _).2 (sm_C g2)) (sm_le (fr_le _ _).1 (sm_C (by omega))) (sm_le (fr_le _ _).2 (sm_C g2)) ⟨_, rfl, ?_⟩)
      have hp := C_pos (n := g) (k := min 9 g) (by omega)
      have z : ¬ (fr (C (g - b) (min 9 g)) (C g (min 9 g))).1 * (fr (C (g - (b + 1)) (min 9 g)) (C g (min 9 g))).2 < (fr (C (g - (b + 1)) (min 9 g)) (C g (min 9 g))).1 * (fr (C (g - b) (min 9 g)) (C g (min 9 g))).2 := by
        rw [fr_less2 hp]
        have := C_mono' (show g - (b + 1) ≤ g - b by omega) (min 9 g)
        omega
      rw [decide_eq_false z]
      exact k
    refine st_asg2 (fun x y => ∃ seed places : Nat, x = .int seed ∧ y = .int places ∧ 1 ≤ seed ∧ seed < M ∧ 1 ≤ places ∧ places ≤ 30) (fun K hK => ?_) ?_
    · refine ⟨rfl, tk 2000000000 2000000000 rfl (by decide) fun r hr => ⟨rfl, tk 30 30 rfl (by decide) fun r2 hr2 => ⟨sz2 _ _, hK _ _ ⟨1 + r, 1 + r2, by rw [Int.natCast_add]; rfl, by rw [Int.natCast_add]; rfl, by omega, by unfold M; omega, by omega, by omega⟩⟩⟩⟩
    rintro _ _ ⟨seed, places, rfl, rfl, s1, s2, l1, l2⟩
    simp only [List.set_cons_succ, List.set_cons_zero]
    refine st_set (fun x => ∃ t : Nat, x = .tuple ((fd seed places t).map nD) ∧ Ends seed places d t) (fun K hK => ⟨_, rfl, _, rfl, _, rfl, drawn_ok seed places d s1 s2 l1 (by omega) fun t ht => hK _ ⟨t, rfl, ht⟩⟩) ?_
    rintro _ ⟨t, rfl, ht⟩
    simp only [List.set_cons_succ, List.set_cons_zero]
    have hlen := ht.len l1
    have hfl : ((fd seed places t).map nD).length = min d places := by rw [List.length_map, hlen]
    have mnd : min (d : Int) (places : Int) = ((min d places : Nat) : Int) := by omega
    refine st_if (fun K k => ?_) ?_
    · refine t_ne (fun x => x = .tuple ((fd seed places t).map nD)) (fun K hK => ⟨_, rfl, hK _ rfl⟩) ?_ ?_ (go_no rfl ?_)
      · rintro _ rfl K hK
        refine ⟨_, rfl, _, rfl, _, rfl, law_drawn_ok seed places d s1 s2 l1 (by omega) fun u hu => ?_⟩
        rw [← ht.uniq hu]; exact hK
      · rintro _ rfl
        exact ⟨depth_tup _ (fun s => Nat.le_trans (Nat.le_of_eq (depth_int _)) (Nat.zero_le _)), plain_tup _ (fun s => rfl)⟩
      · refine ⟨_, rfl, (fd seed places t).map fun x => ((x : Nat) : Int), by show some _ = some _; rw [List.map_map]; rfl, by rw [List.length_map, hlen]; omega, fun ms hms hmem => ⟨_, rfl, _, rfl, dep0 _ _, _, rfl, ?_⟩⟩
        have hml : ms.length = min d places := by
          have nd : ((fd seed places t).map fun x => ((x : Nat) : Int)).Nodup := List.Pairwise.map _ (fun a b h e => h (by omega)) (fd_nodup seed places t)
          have a1 := nodup_le ms _ hms fun x hx => (hmem x).mp hx
          have a2 := nodup_le _ ms nd fun x hx => (hmem x).mpr hx
          rw [List.length_map] at a1 a2
          omega
        rw [hml, mnd, eqv_int, decide_eq_true rfl]
        refine go_no rfl ⟨_, rfl, ?_⟩
        show wComp _ _ _ _ ((fd seed places t).map nD) _ _
        refine wComp_t nD (fun _ => false) nD _ (fun x hx K1 K2 k1 k2 => ?_) (size_big (by rw [hlen]; omega)) ?_
        · have hx2 := fd_lt l1 t x hx
          refine ⟨_, rfl, _, rfl, go_no (decide_eq_false (by omega)) ⟨_, rfl, _, rfl, _, rfl, go_no (decide_eq_false (by omega)) (k2 rfl)⟩⟩
        · rw [List.filter_eq_nil_iff.mpr (fun _ _ => by decide)]
          exact ⟨_, rfl, k⟩
    refine st_if0 (fun K k => ?_) (hK _ ⟨rfl, rfl⟩)
    refine ⟨_, rfl, _, rfl, _, rfl, ?_⟩
    show wp_drawn [.d (.int seed), .d (.int places), .d (.int ((d : Int) + 3))] _
    rw [show (d : Int) + 3 = ((d + 3 : Nat) : Int) by omega]
    refine drawn_ok seed places (d + 3) s1 s2 l1 (by omega) fun u hu => ⟨_, rfl, _, rfl, _, rfl, ?_⟩
    have htu : t ≤ u := by
      rcases Nat.lt_or_ge u t with c | c
      · have := ht.2 u c
        have := hu.1
        omega
      · exact c
    obtain ⟨r, hr⟩ := fd_pre seed places htu
    have hcut : Dw.cutD ((fd seed places u).map nD) none (some (((fd seed places t).map nD).length : Nat)) = (fd seed places t).map nD := by
      unfold Dw.cutD
      rw [HT.sIx_none, HT.sIx_nat, Nat.sub_zero, List.drop_zero, hr, List.map_append, Nat.min_eq_left (by rw [List.length_append]; omega)]
      exact List.take_left
    show min (PyData.tuple (Dw.cutD ((fd seed places u).map nD) none (some (((fd seed places t).map nD).length : Nat)))).depth _ ≤ 100 ∧ ∃ k, PyData.bool (!PyData.eqv (PyData.tuple (Dw.cutD ((fd seed places u).map nD) none (some (((fd seed places t).map nD).length : Nat)))) _) = .bool k ∧ K k
    rw [hcut]
    refine ⟨?_, _, rfl, ?_⟩
    · have := depth_tup (f := nD) (fd seed places t) (fun s => Nat.le_trans (Nat.le_of_eq (depth_int _)) (Nat.zero_le _))
      omega
    · rw [eqv_nats, decide_eq_true rfl]
      exact k
  · rintro ρ ⟨hl, h1⟩
    refine ⟨show 1 ≤ sizeLine by decide, sz2 _ _, sz2 _ _, sz2 _ _, sz2 _ _, sz2 _ _, sz2 _ _, sz2 _ _, sz2 _ _, sz2 _ _, show 12 ≤ sizeLine by decide, ?_⟩
    show wFor _ _ _ odds ρ
    refine wFor_inv (fun _ ρ => ρ.length = 27) odds 0 ρ hl (fun j x ρ hj hl K hK => ?_) (fun ρ hl => ?_)
    · obtain ⟨a0, a1, a2, a3, a4, a5, a6, a7, a8, a9, a10, a11, a12, a13, a14, a15, a16, a17, a18, a19, a20, a21, a22, a23, a24, a25, a26, rfl⟩ := ex27 ρ hl
      exact st_if0 (fun K k => ⟨_, rfl, odd_ok x (List.mem_of_getElem? hj) ⟨_, rfl, k⟩⟩) (hK _ rfl)
    · refine drawn_ok 1 20 50 (by decide) (by decide) (by decide) (by decide) fun t ht => ?_
      have e : (fd 1 20 t).map nD = ((fd 1 20 t).map fun x => ((x : Nat) : Int)).map PyData.int := by rw [List.map_map]; rfl
      have hp : ((fd 1 20 t).map fun x => ((x : Nat) : Int)).Perm ((List.range 20).map fun x => ((x : Nat) : Int)) := by
        refine List.Perm.map _ ((List.perm_ext_iff_of_nodup (fd_nodup _ _ _) List.nodup_range).mpr fun x => ⟨fun h => List.mem_range.mpr (fd_lt (by decide) t x h), fun h => ?_⟩)
        refine nodup_all (fd_nodup 1 20 t) (fun x hx => List.mem_range.mpr (fd_lt (by decide) t x hx)) ?_ x h
        rw [ht.len (by decide), List.length_range]
        decide
      have hs : ((List.range 20).map fun x => ((x : Nat) : Int)).Pairwise (· ≤ ·) := by decide
      show (PySem.W.AllAlike ((fd 1 20 t).map nD) ∧ PySem.W.Sortable ((fd 1 20 t).map nD) ∧ PyData.depthAll ((fd 1 20 t).map nD) ≤ 100) ∧ _
      rw [e]
      refine ⟨⟨allAlike_ints _, sortable_ints _, depth_ints _⟩, ?_⟩
      rw [sort_ints, sort_eq hp hs]
      refine ⟨20, rfl, by decide, ?_, _, rfl, ?_⟩
      · exact Nat.le_trans (Nat.min_le_left _ _) (depth_lst _ (fun s => Nat.le_trans (Nat.le_of_eq (depth_int _)) (Nat.zero_le _)))
      have er : rngD 0 20 = ((List.range 20).map fun x => ((x : Nat) : Int)).map PyData.int := by rw [List.map_map]; exact rng_nat 20
      rw [er, eqv_ints, decide_eq_true rfl]
      refine go_yes rfl ?_
      refine none_ok 10 0 4 (by decide) (by decide) (by decide) ⟨sz2 _ _, dep_fr _ _, _, rfl, ?_⟩
      have e1 : fr (C (10 - 0) 4) (C 10 4) = (1, 1) := fr_self (C_pos (by decide))
      show (if (PyData.eqv (frD (fr (C (10 - 0) 4) (C 10 4))) (frD (1, 1))) = true then _ else _)
      rw [e1, eqv_fr, decide_eq_true rfl]
      refine go_yes rfl ⟨sz2 _ _, draws_needed_ok 10 10 1 2 (by decide) (by decide) (by decide) (sm_lt (by decide)) (sm_lt (by decide)) fun n n1 n2 n3 => ?_⟩
      have hn : n = 1 := by
        have h1 : n ≤ 1 := n1
        rcases Nat.eq_zero_or_pos n with z | z
        · subst z
          exact absurd (by decide) n2
        · omega
      subst hn
      exact ⟨dep0 _ _, rfl⟩
theorem law_ok : lawOk := turn_of rfl rfl
end T60

namespace T60
open PySem PySem.Spec PyProof.Rows L2 Dw
def dd_is_whole : He.DefD := ⟨("is_whole", none), "is_whole", "is_whole", defArgs s_is_whole, defBody s_is_whole, defScope s_is_whole, [], []⟩
def dd_divisor : He.DefD := ⟨("divisor", none), "divisor", "divisor", defArgs s_divisor, defBody s_divisor, defScope s_divisor, [], []⟩
def dd_part : He.DefD := ⟨("part", none), "part", "part", defArgs s_part, defBody s_part, defScope s_part, [], []⟩
def dd_plus : He.DefD := ⟨("plus", none), "plus", "plus", defArgs s_plus, defBody s_plus, defScope s_plus, [], []⟩
def dd_is_less : He.DefD := ⟨("is_less", none), "is_less", "is_less", defArgs s_is_less, defBody s_is_less, defScope s_is_less, [], []⟩
def dd_total : He.DefD := ⟨("total", none), "total", "total", defArgs s_total, defBody s_total, defScope s_total, [], []⟩
def dd_choices : He.DefD := ⟨("choices", none), "choices", "choices", defArgs s_choices, defBody s_choices, defScope s_choices, [], []⟩
def dd_chance_of_none : He.DefD := ⟨("chance_of_none", none), "chance_of_none", "chance_of_none", defArgs s_chance_of_none, defBody s_chance_of_none, defScope s_chance_of_none, [], []⟩
def dd_chance_of : He.DefD := ⟨("chance_of", none), "chance_of", "chance_of", defArgs s_chance_of, defBody s_chance_of, defScope s_chance_of, [], []⟩
def dd_draws_needed : He.DefD := ⟨("draws_needed", none), "draws_needed", "draws_needed", defArgs s_draws_needed, defBody s_draws_needed, defScope s_draws_needed, [], []⟩
def dd_wrong_needed : He.DefD := ⟨("wrong_needed", none), "wrong_needed", "wrong_needed", defArgs s_wrong_needed, defBody s_wrong_needed, defScope s_wrong_needed, [], []⟩
def dd_risk : He.DefD := ⟨("risk", none), "risk", "risk", defArgs s_risk, defBody s_risk, defScope s_risk, [], []⟩
def dd_is_limit : He.DefD := ⟨("is_limit", none), "is_limit", "is_limit", defArgs s_is_limit, defBody s_is_limit, defScope s_is_limit, [], []⟩
def dd_drawn : He.DefD := ⟨("drawn", none), "drawn", "drawn", defArgs s_drawn, defBody s_drawn, defScope s_drawn, [], []⟩
def dd__law_state : He.DefD := ⟨("_law_state", none), "_law_state", "_law_state", defArgs s__law_state, defBody s__law_state, defScope s__law_state, [], []⟩
def dd__law_take : He.DefD := ⟨("_law_take", none), "_law_take", "_law_take", defArgs s__law_take, defBody s__law_take, defScope s__law_take, [], []⟩
def dd__law_pick : He.DefD := ⟨("_law_pick", none), "_law_pick", "_law_pick", defArgs s__law_pick, defBody s__law_pick, defScope s__law_pick, [], []⟩
def dd__law_lots : He.DefD := ⟨("_law_lots", none), "_law_lots", "_law_lots", defArgs s__law_lots, defBody s__law_lots, defScope s__law_lots, [], []⟩
def dd__law_choices : He.DefD := ⟨("_law_choices", none), "_law_choices", "_law_choices", defArgs s__law_choices, defBody s__law_choices, defScope s__law_choices, [], []⟩
def dd__law_drawn : He.DefD := ⟨("_law_drawn", none), "_law_drawn", "_law_drawn", defArgs s__law_drawn, defBody s__law_drawn, defScope s__law_drawn, [], []⟩
def dd_law : He.DefD := ⟨("law", none), "law", "law", defArgs s_law, defBody s_law, defScope s_law, [], []⟩
def fnl : List He.DefD := [dd_is_whole, dd_divisor, dd_part, dd_plus, dd_is_less, dd_total, dd_choices, dd_chance_of_none, dd_chance_of, dd_draws_needed, dd_wrong_needed, dd_risk, dd_is_limit, dd_drawn, dd__law_state, dd__law_take, dd__law_pick, dd__law_lots, dd__law_choices, dd__law_drawn, dd_law]
def fal : List He.Fa := [.glo "is_whole", .glo "divisor", .glo "part", .glo "plus", .glo "is_less", .glo "total", .glo "choices", .glo "chance_of_none", .glo "chance_of", .glo "draws_needed", .glo "wrong_needed", .glo "risk", .glo "is_limit", .glo "drawn", .glo "_law_state", .glo "_law_take", .glo "_law_pick", .glo "_law_lots", .glo "_law_choices", .glo "_law_drawn", .glo "law", .int "MOST_BALLOTS" 1000000, .free "abs", .free "all", .free "bool", .free "int", .free "isinstance", .free "len", .free "list", .free "min", .free "range", .free "set", .free "sorted", .free "tuple"]
abbrev R : PySem.W.OpenRow := PySem.W.OpenLaw.row PySem.Challenge.rw_votehall_k60_whole_draws_of_an_audit
abbrev hk : PySem.W.Hook := He.hookD 4 fal fnl
def ob (s : PySem.W.SharedT) : He.AlD := He.obsDG 4 fal fnl (HandSHeadRun.getT s)
theorem ob_eq (s : PySem.W.SharedT) : ob s = hk.obs s.abs := He.obsDG_eq (HandSHeadRun.getT_eq s)
def loose : List Str := ["is_whole", "divisor", "part", "plus", "is_less", "total", "choices", "chance_of_none", "chance_of", "draws_needed", "wrong_needed", "risk", "is_limit", "drawn", "_law_state", "_law_take", "_law_pick", "_law_lots", "_law_choices", "_law_drawn", "MOST_BALLOTS"]
theorem run (w : World) : HandSHeadRun.RunEq R (PySem.W.view R.prog [25]) hk ob 6000 loose w := by
  intro os
  kernel_rfl
theorem facts {P : Program} {w : World} {K : PySem.W.Frag} {h : Heap} {mg : Str → Option Value} {f : Addr} (X : K.In h) (G : h.Ns mainGlobals mg) (hfa : mg ("law" : Str) = some (.ref f)) (c : He.SaysD fal fnl K) :
    ∃ fd : FuncData, (∀ (s : Shared) (v : Value), BindsTo s fd ⟨[v], []⟩ [("script", v)]) ∧ ∀ base : Heap, K.In base → base.Ns mainGlobals mg → FnOk P w K mg base CX0 5 f fd ["script"] (spLaw K) := by
  obtain ⟨fd_is_whole, F_is_whole⟩ := c.def_ 0 (d := dd_is_whole) rfl
  obtain ⟨fd_divisor, F_divisor⟩ := c.def_ 1 (d := dd_divisor) rfl
  obtain ⟨fd_part, F_part⟩ := c.def_ 2 (d := dd_part) rfl
  obtain ⟨fd_plus, F_plus⟩ := c.def_ 3 (d := dd_plus) rfl
  obtain ⟨fd_is_less, F_is_less⟩ := c.def_ 4 (d := dd_is_less) rfl
  obtain ⟨fd_total, F_total⟩ := c.def_ 5 (d := dd_total) rfl
  obtain ⟨fd_choices, F_choices⟩ := c.def_ 6 (d := dd_choices) rfl
  obtain ⟨fd_chance_of_none, F_chance_of_none⟩ := c.def_ 7 (d := dd_chance_of_none) rfl
  obtain ⟨fd_chance_of, F_chance_of⟩ := c.def_ 8 (d := dd_chance_of) rfl
  obtain ⟨fd_draws_needed, F_draws_needed⟩ := c.def_ 9 (d := dd_draws_needed) rfl
  obtain ⟨fd_wrong_needed, F_wrong_needed⟩ := c.def_ 10 (d := dd_wrong_needed) rfl
  obtain ⟨fd_risk, F_risk⟩ := c.def_ 11 (d := dd_risk) rfl
  obtain ⟨fd_is_limit, F_is_limit⟩ := c.def_ 12 (d := dd_is_limit) rfl
  obtain ⟨fd_drawn, F_drawn⟩ := c.def_ 13 (d := dd_drawn) rfl
  obtain ⟨fd__law_state, F__law_state⟩ := c.def_ 14 (d := dd__law_state) rfl
  obtain ⟨fd__law_take, F__law_take⟩ := c.def_ 15 (d := dd__law_take) rfl
  obtain ⟨fd__law_pick, F__law_pick⟩ := c.def_ 16 (d := dd__law_pick) rfl
  obtain ⟨fd__law_lots, F__law_lots⟩ := c.def_ 17 (d := dd__law_lots) rfl
  obtain ⟨fd__law_choices, F__law_choices⟩ := c.def_ 18 (d := dd__law_choices) rfl
  obtain ⟨fd__law_drawn, F__law_drawn⟩ := c.def_ 19 (d := dd__law_drawn) rfl
  obtain ⟨fd_law, F_law⟩ := c.def_ 20 (d := dd_law) rfl
  have e := hfa.symm.trans (He.glo_ok X G (c.fact 20 (f := .glo "law") rfl))
  cases e
  let T : Tx K mg := {
    fd_is_whole := fd_is_whole, F_is_whole := F_is_whole, m_is_whole := He.glo_ok X G (c.fact 0 (f := .glo "is_whole") rfl), b_is_whole := FunD.bindsN F_is_whole (fun _ _ _ _ _ _ us hl => match us, hl with | [_, _, _], _ => rfl),
    fd_divisor := fd_divisor, F_divisor := F_divisor, m_divisor := He.glo_ok X G (c.fact 1 (f := .glo "divisor") rfl), b_divisor := FunD.bindsN F_divisor (fun _ _ _ _ _ _ us hl => match us, hl with | [_, _], _ => rfl),
    fd_part := fd_part, F_part := F_part, m_part := He.glo_ok X G (c.fact 2 (f := .glo "part") rfl), b_part := FunD.bindsN F_part (fun _ _ _ _ _ _ us hl => match us, hl with | [_, _], _ => rfl),
    fd_plus := fd_plus, F_plus := F_plus, m_plus := He.glo_ok X G (c.fact 3 (f := .glo "plus") rfl), b_plus := FunD.bindsN F_plus (fun _ _ _ _ _ _ us hl => match us, hl with | [_, _], _ => rfl),
    fd_is_less := fd_is_less, F_is_less := F_is_less, m_is_less := He.glo_ok X G (c.fact 4 (f := .glo "is_less") rfl), b_is_less := FunD.bindsN F_is_less (fun _ _ _ _ _ _ us hl => match us, hl with | [_, _], _ => rfl),
    fd_total := fd_total, F_total := F_total, m_total := He.glo_ok X G (c.fact 5 (f := .glo "total") rfl), b_total := FunD.bindsN F_total (fun _ _ _ _ _ _ us hl => match us, hl with | [_], _ => rfl),
    fd_choices := fd_choices, F_choices := F_choices, m_choices := He.glo_ok X G (c.fact 6 (f := .glo "choices") rfl), b_choices := FunD.bindsN F_choices (fun _ _ _ _ _ _ us hl => match us, hl with | [_, _], _ => rfl),
    fd_chance_of_none := fd_chance_of_none, F_chance_of_none := F_chance_of_none, m_chance_of_none := He.glo_ok X G (c.fact 7 (f := .glo "chance_of_none") rfl), b_chance_of_none := FunD.bindsN F_chance_of_none (fun _ _ _ _ _ _ us hl => match us, hl with | [_, _, _], _ => rfl),
    fd_chance_of := fd_chance_of, F_chance_of := F_chance_of, m_chance_of := He.glo_ok X G (c.fact 8 (f := .glo "chance_of") rfl), b_chance_of := FunD.bindsN F_chance_of (fun _ _ _ _ _ _ us hl => match us, hl with | [_, _, _, _], _ => rfl),
    fd_draws_needed := fd_draws_needed, F_draws_needed := F_draws_needed, m_draws_needed := He.glo_ok X G (c.fact 9 (f := .glo "draws_needed") rfl), b_draws_needed := FunD.bindsN F_draws_needed (fun _ _ _ _ _ _ us hl => match us, hl with | [_, _, _], _ => rfl),
    fd_wrong_needed := fd_wrong_needed, F_wrong_needed := F_wrong_needed, m_wrong_needed := He.glo_ok X G (c.fact 10 (f := .glo "wrong_needed") rfl), b_wrong_needed := FunD.bindsN F_wrong_needed (fun _ _ _ _ _ _ us hl => match us, hl with | [_], _ => rfl),
    fd_risk := fd_risk, F_risk := F_risk, m_risk := He.glo_ok X G (c.fact 11 (f := .glo "risk") rfl), b_risk := FunD.bindsN F_risk (fun _ _ _ _ _ _ us hl => match us, hl with | [_, _, _], _ => rfl),
    fd_is_limit := fd_is_limit, F_is_limit := F_is_limit, m_is_limit := He.glo_ok X G (c.fact 12 (f := .glo "is_limit") rfl), b_is_limit := FunD.bindsN F_is_limit (fun _ _ _ _ _ _ us hl => match us, hl with | [_], _ => rfl),
    fd_drawn := fd_drawn, F_drawn := F_drawn, m_drawn := He.glo_ok X G (c.fact 13 (f := .glo "drawn") rfl), b_drawn := FunD.bindsN F_drawn (fun _ _ _ _ _ _ us hl => match us, hl with | [_, _, _], _ => rfl),
    fd__law_state := fd__law_state, F__law_state := F__law_state, m__law_state := He.glo_ok X G (c.fact 14 (f := .glo "_law_state") rfl), b__law_state := FunD.bindsN F__law_state (fun _ _ _ _ _ _ us hl => match us, hl with | [_], _ => rfl),
    fd__law_take := fd__law_take, F__law_take := F__law_take, m__law_take := He.glo_ok X G (c.fact 15 (f := .glo "_law_take") rfl), b__law_take := FunD.bindsN F__law_take (fun _ _ _ _ _ _ us hl => match us, hl with | [_, _], _ => rfl),
    fd__law_pick := fd__law_pick, F__law_pick := F__law_pick, m__law_pick := He.glo_ok X G (c.fact 16 (f := .glo "_law_pick") rfl), b__law_pick := FunD.bindsN F__law_pick (fun _ _ _ _ _ _ us hl => match us, hl with | [_, _], _ => rfl),
    fd__law_lots := fd__law_lots, F__law_lots := F__law_lots, m__law_lots := He.glo_ok X G (c.fact 17 (f := .glo "_law_lots") rfl), b__law_lots := FunD.bindsN F__law_lots (fun _ _ _ _ _ _ us hl => match us, hl with | [_, _], _ => rfl),
    fd__law_choices := fd__law_choices, F__law_choices := F__law_choices, m__law_choices := He.glo_ok X G (c.fact 18 (f := .glo "_law_choices") rfl), b__law_choices := FunD.bindsN F__law_choices (fun _ _ _ _ _ _ us hl => match us, hl with | [_, _], _ => rfl),
    fd__law_drawn := fd__law_drawn, F__law_drawn := F__law_drawn, m__law_drawn := He.glo_ok X G (c.fact 19 (f := .glo "_law_drawn") rfl), b__law_drawn := FunD.bindsN F__law_drawn (fun _ _ _ _ _ _ us hl => match us, hl with | [_, _, _], _ => rfl),
    fd_law := fd_law, F_law := F_law, m_law := He.glo_ok X G (c.fact 20 (f := .glo "law") rfl), b_law := FunD.bindsN F_law (fun _ _ _ _ _ _ us hl => match us, hl with | [_], _ => rfl),
    i_MOST_BALLOTS := He.int_ok X G (c.fact 21 (f := .int "MOST_BALLOTS" 1000000) rfl),
    z_abs := He.free_ok X G (c.fact 22 (f := .free "abs") rfl),
    z_all := He.free_ok X G (c.fact 23 (f := .free "all") rfl),
    z_bool := He.free_ok X G (c.fact 24 (f := .free "bool") rfl),
    z_int := He.free_ok X G (c.fact 25 (f := .free "int") rfl),
    z_isinstance := He.free_ok X G (c.fact 26 (f := .free "isinstance") rfl),
    z_len := He.free_ok X G (c.fact 27 (f := .free "len") rfl),
    z_list := He.free_ok X G (c.fact 28 (f := .free "list") rfl),
    z_min := He.free_ok X G (c.fact 29 (f := .free "min") rfl),
    z_range := He.free_ok X G (c.fact 30 (f := .free "range") rfl),
    z_set := He.free_ok X G (c.fact 31 (f := .free "set") rfl),
    z_sorted := He.free_ok X G (c.fact 32 (f := .free "sorted") rfl),
    z_tuple := He.free_ok X G (c.fact 33 (f := .free "tuple") rfl) }
  have b := FunD.bindsA (ps := ["script"]) F_law fun _ _ _ _ _ _ us hl => match us, hl with | [_], _ => rfl
  exact ⟨fd_law, fun s v => b s [v] rfl, fun base _ _ => ok_law T law_ok⟩
end T60
open PySem PySem.W PySem.Calls PyProof.Rows
set_option maxRecDepth 100000 in
set_option maxHeartbeats 0 in
theorem PySem.Challenge.cw_votehall_k60_whole_draws_of_an_audit_holds : PySem.Challenge.rw_votehall_k60_whole_draws_of_an_audit.Holds := by
  w_on; o_law
  refine HandSHeadRun.head_any (r := OpenLaw.row PySem.Challenge.rw_votehall_k60_whole_draws_of_an_audit) (q := view (OpenLaw.row PySem.Challenge.rw_votehall_k60_whole_draws_of_an_audit).prog [25]) (H := T60.hk) (ob := T60.ob) (M := 6000) (loose := T60.loose) (d := HandSHeadRun.topDef (OpenLaw.row PySem.Challenge.rw_votehall_k60_whole_draws_of_an_audit).prog 25) (kwd := []) T60.ob_eq
    (by kernel_rfl) (fun s => by kernel_rfl) T60.run (by kernel_rfl) (by kernel_rfl) (by kernel_rfl) (by rfl) (by first | assumption | decide +kernel) (by decide +kernel) ⟨rfl, rfl, rfl, rfl, rfl, by decide +kernel⟩ ?hw ?hc
  case hw => w_witness2
  case hc =>
    refine L2.walk_ofE (l := PySem.Challenge.rw_votehall_k60_whole_draws_of_an_audit) (n := 63) (k := 5) (x := "script") (CX := L2.CX0) rfl (by decide) (by kernel_rfl) ⟨rfl, by decide, by decide⟩ ?F (fun _ _ _ _ z => z)
    intro w mg fa h Y G hmg0
    obtain ⟨K, KX, c⟩ := Y
    have hmg : mg ("law" : PySem.Str) = some (.ref fa) := by
      have e : (HandSHeadRun.topDef (OpenLaw.row PySem.Challenge.rw_votehall_k60_whole_draws_of_an_audit).prog 25).name = ("law" : PySem.Str) := by kernel_rfl
      rw [← e]
      exact hmg0
    obtain ⟨fd, hb, hF⟩ := T60.facts (P := (PySem.Challenge.rw_votehall_k60_whole_draws_of_an_audit).prog) (w := w) KX G hmg c
    exact ⟨K, fd, Dw.spLaw K, KX, hb, fun H a ns hl _ hS => ⟨a, ns, rfl, hS, hl, fun _ => rfl⟩, hF⟩

