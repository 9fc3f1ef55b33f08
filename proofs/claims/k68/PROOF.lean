import PyProof.Rows.All
import Wide.All
import OpenK.AllK
import Wide.FinOn
import HandS.ForMost
import HandS.Deep
import HandS.IsInst
import HandS.SortInts
import HandS.TupAny
import HandS.TupLe
import HandS.Wide
import HandS.Flow
import HandS.Conv
import KE.DataEq
import KE.DataCmp
import KE.SortData
import KE.DataMinMax
import KE.DataMinKey
import KE.DataIsa
import KE.DataFind
import KE.DataAny
import KE.DatumIndex
import KE.DatumOrd
import HandS.TupMul
import KE.KTupSum
import HandS.Defaults
import HandS.Head0
import HandS.Head1
import HandS.Head2
import HandS.HeadEnd
import HandS.HeadHook1
import HandS.HeadHook2
import HandS.Zip
import HandS.SetFor
import PyProof.TupleOfSeq
import PySem.Challenge.RW_votehall_k68_whole_one_axis
set_option Elab.async false
set_option linter.all false
set_option maxRecDepth 100000
namespace Dw
open PySem PySem.Spec PyProof.Rows L2

abbrev D := PyData

/-! ### data in the heap: lists are tracked, tuples tracked or written -/
mutual
inductive Rp (K : PySem.W.Frag) (H : Hp) : V → D → Prop
  | non : Rp K H .non .none
  | bl (b : Bool) : Rp K H (.bl b) (.bool b)
  | int (i : Int) : Rp K H (.int i) (.int i)
  | str (x : Str) : Rp K H (.str x) (.str x)
  | lst {a : Addr} {xs : List V} {ds : List D} : H a = some (.lst xs) → Rps K H xs ds → Rp K H (.ref a) (.list ds)
  | tup {a : Addr} {xs : List V} {ds : List D} : SqT K H a xs → Rps K H xs ds → Rp K H (.ref a) (.tuple ds)
inductive Rps (K : PySem.W.Frag) (H : Hp) : List V → List D → Prop
  | nil : Rps K H [] []
  | cons {v : V} {vs : List V} {d : D} {ds : List D} : Rp K H v d → Rps K H vs ds → Rps K H (v :: vs) (d :: ds)
end

theorem same_sqT {K : PySem.W.Frag} {H H' : Hp} {a : Addr} {xs : List V} (e : Same H H') (h : SqT K H a xs) : SqT K H' a xs := by
  rcases h with (h | ⟨o, h⟩) | h
  · exact .inl (.inl (e _ _ h))
  · exact .inl (.inr ⟨o, e _ _ h⟩)
  · exact .inr h
mutual
theorem Rp.mono {K : PySem.W.Frag} {H H' : Hp} (s : Same H H') : ∀ {d : D} {v : V}, Rp K H v d → Rp K H' v d
  | .none, _, h => by cases h; exact .non
  | .bool _, _, h => by cases h; exact .bl _
  | .int _, _, h => by cases h; exact .int _
  | .str _, _, h => by cases h; exact .str _
  | .list ds, _, h => by
    cases h with
    | lst e a => exact .lst (s _ _ e) (Rps.mono s a)
  | .tuple ds, _, h => by
    cases h with
    | tup e a => exact .tup (same_sqT s e) (Rps.mono s a)
  | .dict _, _, h => by cases h
theorem Rps.mono {K : PySem.W.Frag} {H H' : Hp} (s : Same H H') : ∀ {ds : List D} {vs : List V}, Rps K H vs ds → Rps K H' vs ds
  | [], _, h => by cases h; exact .nil
  | d :: ds, _, h => by
    cases h with
    | cons a b => exact .cons (Rp.mono s a) (Rps.mono s b)
end
mutual
theorem Rp.dp {K : PySem.W.Frag} {H : Hp} : ∀ {d : D} {v : V}, Rp K H v d → Dp K H v d
  | .none, _, h => by cases h; exact .non
  | .bool _, _, h => by cases h; exact .bl _
  | .int _, _, h => by cases h; exact .int _
  | .str _, _, h => by cases h; exact .str _
  | .list ds, _, h => by
    cases h with
    | lst e a => exact .lst (SqL.of e) (Rps.dp a)
  | .tuple ds, _, h => by
    cases h with
    | tup e a => exact .tup e (Rps.dp a)
  | .dict _, _, h => by cases h
theorem Rps.dp {K : PySem.W.Frag} {H : Hp} : ∀ {ds : List D} {vs : List V}, Rps K H vs ds → DpAll K H vs ds
  | [], _, h => by cases h; exact .nil
  | d :: ds, _, h => by
    cases h with
    | cons a b => exact .cons (Rp.dp a) (Rps.dp b)
end
section
variable {K : PySem.W.Frag} {H : Hp}
theorem Rps.length {ds : List D} : ∀ {vs : List V}, Rps K H vs ds → vs.length = ds.length := by
  induction ds with
  | nil => intro vs h; cases h; rfl
  | cons d ds ih => intro vs h; cases h with | cons a b => simp [ih b]
theorem Rps.get {ds : List D} : ∀ {vs : List V} {i : Nat} {d : D}, Rps K H vs ds → ds[i]? = some d → ∃ v, vs[i]? = some v ∧ Rp K H v d := by
  induction ds with
  | nil => intro vs i d h e; simp at e
  | cons d' ds ih =>
    intro vs i d h e
    cases h with
    | @cons v vs' _ _ a b =>
      cases i with
      | zero => simp at e; subst e; exact ⟨v, by simp, a⟩
      | succ i => obtain ⟨u, e1, r⟩ := ih b (by simpa using e); exact ⟨u, by simpa using e1, r⟩
theorem Rps.get' {vs : List V} : ∀ {ds : List D} {i : Nat} {v : V}, Rps K H vs ds → vs[i]? = some v → ∃ d, ds[i]? = some d ∧ Rp K H v d := by
  induction vs with
  | nil => intro ds i v h e; simp at e
  | cons v' vs ih =>
    intro ds i v h e
    cases h with
    | @cons _ _ d ds' a b =>
      cases i with
      | zero => simp at e; subst e; exact ⟨d, by simp, a⟩
      | succ i => obtain ⟨u, e1, r⟩ := ih b (by simpa using e); exact ⟨u, by simpa using e1, r⟩
theorem Rps.append {xs ys : List V} {ds es : List D} (a : Rps K H xs ds) (b : Rps K H ys es) : Rps K H (xs ++ ys) (ds ++ es) := by
  induction ds generalizing xs with
  | nil => cases a; exact b
  | cons d ds ih => cases a with | cons p q => exact .cons p (ih q)
theorem Rps.one {v : V} {d : D} (h : Rp K H v d) : Rps K H [v] [d] := .cons h .nil
theorem Rps.take {ds : List D} : ∀ {vs : List V} (n : Nat), Rps K H vs ds → Rps K H (vs.take n) (ds.take n) := by
  induction ds with
  | nil => intro vs n h; cases h; simp; exact .nil
  | cons d ds ih =>
    intro vs n h
    cases h with
    | cons a b =>
      cases n with
      | zero => simp; exact .nil
      | succ n => simp; exact .cons a (ih n b)
theorem Rps.drop {ds : List D} : ∀ {vs : List V} (n : Nat), Rps K H vs ds → Rps K H (vs.drop n) (ds.drop n) := by
  induction ds with
  | nil => intro vs n h; cases h; simp; exact .nil
  | cons d ds ih =>
    intro vs n h
    cases h with
    | cons a b =>
      cases n with
      | zero => simp; exact .cons a b
      | succ n => simp; exact ih n b
theorem Rps.set {ds : List D} : ∀ {vs : List V} (n : Nat) {v : V} {d : D}, Rps K H vs ds → Rp K H v d → Rps K H (vs.set n v) (ds.set n d) := by
  induction ds with
  | nil => intro vs n v d h r; cases h; simp; exact .nil
  | cons d ds ih =>
    intro vs n v' d' h r
    cases h with
    | cons a b =>
      cases n with
      | zero => simp; exact .cons r b
      | succ n => simp; exact .cons a (ih n b r)
theorem Rps.ints : ∀ {ns : List Int} {vs : List V}, Rps K H vs (ns.map PyData.int) → vs = ns.map V.int
  | [], _, h => by cases h; rfl
  | n :: ns, _, h => by
    cases h with
    | cons a b => cases a; rw [Rps.ints b]; rfl
theorem Rps.bools : ∀ {ns : List Bool} {vs : List V}, Rps K H vs (ns.map PyData.bool) → vs = ns.map V.bl
  | [], _, h => by cases h; rfl
  | n :: ns, _, h => by
    cases h with
    | cons a b => cases a; rw [Rps.bools b]; rfl
theorem Rps.of_ints : ∀ (ns : List Int), Rps K H (ns.map V.int) (ns.map PyData.int)
  | [] => .nil
  | n :: ns => .cons (.int n) (Rps.of_ints ns)
theorem Rp.list_inv {v : V} {ds : List D} (h : Rp K H v (.list ds)) : ∃ a xs, v = .ref a ∧ H a = some (.lst xs) ∧ Rps K H xs ds := by
  cases h with
  | lst e a => exact ⟨_, _, rfl, e, a⟩
theorem Rp.tup_inv {v : V} {ds : List D} (h : Rp K H v (.tuple ds)) : ∃ a xs, v = .ref a ∧ SqT K H a xs ∧ Rps K H xs ds := by
  cases h with
  | tup e a => exact ⟨_, _, rfl, e, a⟩
theorem Rp.int_inv {v : V} {i : Int} (h : Rp K H v (.int i)) : v = .int i := by cases h; rfl
theorem Rp.bool_inv {v : V} {i : Bool} (h : Rp K H v (.bool i)) : v = .bl i := by cases h; rfl
theorem Rp.none_inv {v : V} (h : Rp K H v .none) : v = .non := by cases h; rfl
theorem Rp.str_inv {v : V} {x : Str} (h : Rp K H v (.str x)) : v = .str x := by cases h; rfl
end

/-! ### the heap outside of some addresses -/
def off (Z : List Addr) (H : Hp) : Hp := fun a => if a ∈ Z then none else H a
section
variable {Z Z' : List Addr} {H H' : Hp} {a : Addr} {o : HO}
theorem off_some : off Z H a = some o ↔ a ∉ Z ∧ H a = some o := by
  unfold off; by_cases h : a ∈ Z <;> simp [h]
theorem off_same (h : ∀ x, x ∈ Z' → x ∈ Z) : Same (off Z H) (off Z' H) := fun b o e => by
  rw [off_some] at e ⊢; exact ⟨fun q => e.1 (h _ q), e.2⟩
theorem off_le : Same (off Z H) H := fun b o e => (off_some.mp e).2
theorem same_off (s : Same H H') : Same (off Z H) (off Z H') := fun b o e => by
  rw [off_some] at e ⊢; exact ⟨e.1, s _ _ e.2⟩
theorem same_upd {p : Addr} (h : H p = none) : Same H (upd H p o) := fun b x e => by
  rw [upd_ne (ne_of_none e h)]; exact e
theorem same_off_upd {p : Addr} (h : p ∈ Z ∨ H p = none) : Same (off Z H) (off Z (upd H p o)) := fun b x e => by
  rw [off_some] at e ⊢
  refine ⟨e.1, ?_⟩
  have : b ≠ p := by
    rintro rfl
    rcases h with h | h
    · exact e.1 h
    · rw [h] at e; cases e.2
  rw [upd_ne this]; exact e.2
end

/-! ### the part of the heap that others change -/
structure Wd where
  Z : List Addr
  st : Addr
  R : Hp → Prop
  fr : ∀ H H', R H → (∀ a ∈ Z, H' a = H a) → R H'
  dom : ∀ H, R H → ∀ a ∈ Z, H a ≠ none
structure Stp (w : Wd) (H H' : Hp) : Prop where
  s : Same (off w.Z H) (off w.Z H')
  r : w.R H'
section
variable {w : Wd} {H H1 H2 : Hp}
theorem Stp.refl (r : w.R H) : Stp w H H := ⟨fun _ _ e => e, r⟩
theorem Stp.trans (a : Stp w H H1) (b : Stp w H1 H2) : Stp w H H2 := ⟨a.s.trans b.s, b.r⟩
theorem Stp.laid {p : Addr} {o : HO} (r : w.R H) (h : H p = none) : Stp w H (upd H p o) :=
  ⟨same_off_upd (.inr h), w.fr _ _ r fun a ha => upd_ne fun e => w.dom _ r a ha (e ▸ h)⟩
end

/-- the law's own state: [i, cells], its cells -/
structure StOk (H : Hp) (a c : Addr) (i : Int) (ns : List Int) : Prop where
  i0 : 0 ≤ i
  ne : ns ≠ []
  n0 : ∀ n ∈ ns, 0 ≤ n
  len : ns.length ≤ 63
  ha : H a = some (.lst [.int i, .ref c])
  hc : H c = some (.lst (ns.map V.int))
theorem StOk.ac {H : Hp} {a c : Addr} {i : Int} {ns : List Int} (h : StOk H a c i ns) : a ≠ c := by
  rintro rfl
  have e := h.ha.symm.trans h.hc
  cases ns with
  | nil => simp at e
  | cons n r => cases r with
    | nil => simp at e
    | cons m r => simp at e
structure StW (w : Wd) : Prop where
  get : ∀ H, w.R H → ∃ (c : Addr) (i : Int) (ns : List Int), StOk H w.st c i ns ∧ w.st ∈ w.Z ∧ c ∈ w.Z ∧
    (∀ i', 0 ≤ i' → w.R (upd H w.st (.lst [.int i', .ref c]))) ∧ (∀ ns' : List Int, ns' ≠ [] → (∀ n ∈ ns', 0 ≤ n) → ns'.length ≤ 63 → w.R (upd H c (.lst (ns'.map V.int))))

/-! ### names -/
inductive Ent where
  | d (x : D)
  | st
  | own (ds : List D)
abbrev Env := List (Option Ent)
def EntR (K : PySem.W.Frag) (w : Wd) (O : List Addr) (H : Hp) (v : V) : Ent → Prop
  | .d x => Rp K (off (w.Z ++ O) H) v x
  | .st => v = .ref w.st ∧ StW w
  | .own ds => ∃ p vs, v = .ref p ∧ p ∈ O ∧ H p = some (.lst vs) ∧ Rps K (off (w.Z ++ O) H) vs ds

structure Rep (K : PySem.W.Frag) (w : Wd) (H0 : Hp) (kp : List (V × D)) (O : List Addr) (H : Hp) (σ : L2.St) (ρ : Env) : Prop where
  r : w.R H
  s0 : Same (off w.Z H0) (off w.Z H)
  o0 : ∀ a ∈ O, H0 a = none ∧ a ∉ w.Z
  oS : ∀ a ∈ O, Mut (H a)
  kp : ∀ p ∈ kp, Rp K (off (w.Z ++ O) H) p.1 p.2
  len : ρ.length = σ.length
  var : ∀ (i : Nat) (e : Ent), ρ[i]? = some (some e) → ∃ v, σ[i]? = some (some v) ∧ EntR K w O H v e
  apart : ∀ (i j : Nat) (ds es : List D) (v : V), i ≠ j → ρ[i]? = some (some (.own ds)) → ρ[j]? = some (some (.own es)) → σ[i]? = some (some v) → σ[j]? ≠ some (some v)

section
variable {K : PySem.W.Frag} {w : Wd} {H0 H H' : Hp} {kp : List (V × D)} {O : List Addr} {σ : L2.St} {ρ : Env}
theorem stp_off (rO : ∀ a ∈ O, a ∉ w.Z) (s : Same (off w.Z H) (off w.Z H')) : Same (off (w.Z ++ O) H) (off (w.Z ++ O) H') := fun b o e => by
  rw [off_some] at e ⊢
  have h1 : b ∉ w.Z := fun q => e.1 (List.mem_append_left _ q)
  exact ⟨e.1, (off_some.mp (s b o (off_some.mpr ⟨h1, e.2⟩))).2⟩
theorem Rep.off (rep : Rep K w H0 kp O H σ ρ) (s : Stp w H H') : Same (Dw.off (w.Z ++ O) H) (Dw.off (w.Z ++ O) H') := stp_off (fun a ha => (rep.o0 a ha).2) s.s
theorem Rep.stp (rep : Rep K w H0 kp O H σ ρ) (s : Stp w H H') : Rep K w H0 kp O H' σ ρ := by
  have so := rep.off s
  refine ⟨s.r, rep.s0.trans s.s, rep.o0, fun a ha => ?_, fun p hp => (rep.kp p hp).mono so, rep.len, fun i e h => ?_, rep.apart⟩
  · cases q : H a with
    | none => have := rep.oS a ha; rw [q] at this; exact this.elim
    | some o =>
      have e := (off_some.mp (s.s a o (off_some.mpr ⟨(rep.o0 a ha).2, q⟩))).2
      rw [e, ← q]; exact rep.oS a ha
  obtain ⟨v, h1, h2⟩ := rep.var i e h
  refine ⟨v, h1, ?_⟩
  cases e with
  | d x => exact Rp.mono so h2
  | st => exact h2
  | own ds =>
    obtain ⟨p, vs, e1, e2, e3, e4⟩ := h2
    exact ⟨p, vs, e1, e2, (off_some.mp (s.s p _ (off_some.mpr ⟨(rep.o0 p e2).2, e3⟩))).2, e4.mono so⟩
/-- the owned lists as plain data -/
def peekE : Option Ent → Option Ent
  | some (.own ds) => some (.d (.list ds))
  | e => e
def peek (ρ : Env) : Env := ρ.map peekE
theorem Rep.peek (rep : Rep K w H0 kp O H σ ρ) : Rep K w H0 kp [] H σ (peek ρ) := by
  have so : Same (Dw.off (w.Z ++ O) H) (Dw.off (w.Z ++ []) H) := off_same (by simp; intro x h; exact .inl h)
  refine ⟨rep.r, rep.s0, fun a h => by simp at h, fun a h => by simp at h, fun p hp => (rep.kp p hp).mono so, by simp [Dw.peek, rep.len], fun i e h => ?_, fun i j ds es v _ h => ?_⟩
  · unfold Dw.peek at h
    rw [List.getElem?_map] at h
    cases hq : ρ[i]? with
    | none => rw [hq] at h; simp at h
    | some x =>
      rw [hq] at h
      simp only [Option.map_some, Option.some.injEq] at h
      cases x with
      | none => simp [peekE] at h
      | some y =>
        obtain ⟨v, h1, h2⟩ := rep.var i y hq
        refine ⟨v, h1, ?_⟩
        cases y with
        | d x => simp [peekE] at h; subst h; exact Rp.mono so h2
        | st => simp [peekE] at h; subst h; exact h2
        | own ds =>
          simp [peekE] at h; subst h
          obtain ⟨p, vs, e1, e2, e3, e4⟩ := h2
          rw [e1]
          exact .lst (off_some.mpr ⟨by simp; exact (rep.o0 p e2).2, e3⟩) (e4.mono so)
  · unfold Dw.peek at h
    rw [List.getElem?_map] at h
    cases hq : ρ[i]? with
    | none => rw [hq] at h; simp at h
    | some x =>
      rw [hq] at h
      simp only [Option.map_some, Option.some.injEq] at h
      cases x with
      | none => simp [peekE] at h
      | some y => cases y <;> simp [peekE] at h
end

structure Wok (w : Wd) (O : List Addr) (H : Hp) : Prop where
  r : w.R H
  o : ∀ a ∈ O, a ∉ w.Z ∧ H a ≠ none
theorem Rep.wok {K : PySem.W.Frag} {w : Wd} {H0 H : Hp} {kp : List (V × D)} {O : List Addr} {σ : L2.St} {ρ : Env} (rep : Rep K w H0 kp O H σ ρ) : Wok w O H := ⟨rep.r, fun a ha => ⟨(rep.o0 a ha).2, fun q => by have := rep.oS a ha; rw [q] at this; exact this.elim⟩⟩
section
variable {K : PySem.W.Frag} {w : Wd} {O : List Addr} {H H' : Hp} {p : Addr} {xs : List V} {ds : List D}
theorem Wok.fresh (k : Wok w O H) (h : H p = none) : p ∉ w.Z ++ O := fun q => by
  rcases List.mem_append.mp q with q | q
  · exact w.dom _ k.r p q h
  · exact (k.o p q).2 h
theorem Wok.off (k : Wok w O H) (s : Stp w H H') : Same (Dw.off (w.Z ++ O) H) (Dw.off (w.Z ++ O) H') := stp_off (fun a ha => (k.o a ha).1) s.s
theorem Wok.stp (k : Wok w O H) (s : Stp w H H') : Wok w O H' := ⟨s.r, fun a ha => ⟨(k.o a ha).1, by
  cases q : H a with
  | none => exact absurd q (k.o a ha).2
  | some o =>
    have e := (off_some.mp (s.s a o (off_some.mpr ⟨(k.o a ha).1, q⟩))).2
    rw [e]; simp⟩⟩
theorem Wok.lst (k : Wok w O H) (h : H p = none) (r : Rps K (Dw.off (w.Z ++ O) H) xs ds) : Rp K (Dw.off (w.Z ++ O) (upd H p (.lst xs))) (.ref p) (.list ds) :=
  .lst (off_some.mpr ⟨k.fresh h, upd_same⟩) (r.mono (same_off_upd (.inr h)))
theorem Wok.tup (k : Wok w O H) (h : H p = none) (r : Rps K (Dw.off (w.Z ++ O) H) xs ds) : Rp K (Dw.off (w.Z ++ O) (upd H p (.tup xs))) (.ref p) (.tuple ds) :=
  .tup (.inl (.inl (off_some.mpr ⟨k.fresh h, upd_same⟩))) (r.mono (same_off_upd (.inr h)))
theorem sqT_off {Z : List Addr} {a : Addr} (h : SqT K (Dw.off Z H) a xs) : SqT K H a xs := same_sqT off_le h
end

/-! ### readings -/
abbrev DE := Env → (D → Prop) → Prop
abbrev DT := Env → (Bool → Prop) → Prop
abbrev DA := Env → (List D → Prop) → Prop
def QR (K : PySem.W.Frag) (f : DE) : TE := fun σ H Q => ∃ (w : Wd) (H0 : Hp) (kp : List (V × D)) (O : List Addr) (ρ : Env) (P : D → Prop), Rep K w H0 kp O H σ ρ ∧ f ρ P ∧
  ∀ d v H', P d → Stp w H H' → Rp K (off (w.Z ++ O) H') v d → Q v H'
def QRT (K : PySem.W.Frag) (f : DT) : TT := fun σ H Q => ∃ (w : Wd) (H0 : Hp) (kp : List (V × D)) (O : List Addr) (ρ : Env) (P : Bool → Prop), Rep K w H0 kp O H σ ρ ∧ f ρ P ∧
  ∀ b H', P b → Stp w H H' → Q b H'
def QRA (K : PySem.W.Frag) (f : DA) : TA := fun σ H Q => ∃ (w : Wd) (H0 : Hp) (kp : List (V × D)) (O : List Addr) (ρ : Env) (P : List D → Prop), Rep K w H0 kp O H σ ρ ∧ f ρ P ∧
  ∀ ds vs H', P ds → Stp w H H' → Rps K (off (w.Z ++ O) H') vs ds → Q vs H'
structure QE (X : Cx) (e : Expr) (f : DE) : Prop where
  pe : PE X e (QR X.K f)
structure QT (X : Cx) (e : Expr) (f : DT) : Prop where
  pt : PT X e (QRT X.K f)
structure QW (X : Cx) (e : Expr) (f : DT) : Prop where
  pw : PW X e (QRT X.K f)
structure QA (X : Cx) (es : List Expr) (f : DA) : Prop where
  pa : PA X es (QRA X.K f)
theorem QW.qt {X : Cx} {e : Expr} {f : DT} (h : QW X e f) : QT X e f := ⟨h.pw.pt⟩
section
variable {X : Cx} {e : Expr} {es : List Expr}
theorem pe_imp {t t' : TE} (h : PE X e t) (i : ∀ σ H Q, t' σ H Q → t σ H Q) : PE X e t' := ⟨fun pins s σ H Q I q => h.run pins s σ H Q I (i _ _ _ q)⟩
theorem pt_imp {t t' : TT} (h : PT X e t) (i : ∀ σ H Q, t' σ H Q → t σ H Q) : PT X e t' := ⟨fun pins s σ H Q I q => h.run pins s σ H Q I (i _ _ _ q)⟩
theorem pw_imp {t t' : TT} (h : PW X e t) (i : ∀ σ H Q, t' σ H Q → t σ H Q) : PW X e t' := ⟨fun wh pins s σ H Q I q => h.run wh pins s σ H Q I (i _ _ _ q)⟩
theorem pa_imp {t t' : TA} (h : PA X es t) (i : ∀ σ H Q, t' σ H Q → t σ H Q) : PA X es t' := ⟨fun pos pins s σ H Q I q => h.run pos pins s σ H Q I (i _ _ _ q)⟩
end
section
variable {K : PySem.W.Frag} {w : Wd} {H0 H H' : Hp} {kp : List (V × D)} {O : List Addr} {σ : L2.St} {ρ : Env}
theorem Rep.go {f : DE} {P : D → Prop} {Q : VK} (rep : Rep K w H0 kp O H σ ρ) (h : f ρ P)
    (k : ∀ d v H', P d → Stp w H H' → Rep K w H0 kp O H' σ ρ → Rp K (Dw.off (w.Z ++ O) H') v d → Q v H') : QR K f σ H Q :=
  ⟨w, H0, kp, O, ρ, P, rep, h, fun d v H' p s r => k d v H' p s (rep.stp s) r⟩
theorem Rep.goT {f : DT} {P : Bool → Prop} {Q : Bool → Hp → Prop} (rep : Rep K w H0 kp O H σ ρ) (h : f ρ P)
    (k : ∀ b H', P b → Stp w H H' → Rep K w H0 kp O H' σ ρ → Q b H') : QRT K f σ H Q :=
  ⟨w, H0, kp, O, ρ, P, rep, h, fun d H' p s => k d H' p s (rep.stp s)⟩
theorem Rep.goA {f : DA} {P : List D → Prop} {Q : List V → Hp → Prop} (rep : Rep K w H0 kp O H σ ρ) (h : f ρ P)
    (k : ∀ ds vs H', P ds → Stp w H H' → Rep K w H0 kp O H' σ ρ → Rps K (Dw.off (w.Z ++ O) H') vs ds → Q vs H') : QRA K f σ H Q :=
  ⟨w, H0, kp, O, ρ, P, rep, h, fun d v H' p s r => k d v H' p s (rep.stp s) r⟩
end
end Dw

namespace Dw
open PySem PySem.Spec PyProof.Rows L2

section
variable {X : Cx} {pins : List (Addr × Obj)} {σ : L2.St} {H : Hp} {s : Shared}
mutual
theorem Rp.plain {K : PySem.W.Frag} : ∀ {d : D} {v : V}, Rp K H v d → d.plain = true
  | .none, _, _ => rfl
  | .bool _, _, _ => rfl
  | .int _, _, _ => rfl
  | .str _, _, _ => rfl
  | .list ds, _, h => by cases h with | lst e a => exact Rps.plain a
  | .tuple ds, _, h => by cases h with | tup e a => exact Rps.plain a
  | .dict _, _, h => by cases h
theorem Rps.plain {K : PySem.W.Frag} : ∀ {ds : List D} {vs : List V}, Rps K H vs ds → PyData.plainAll ds = true
  | [], _, _ => rfl
  | d :: ds, _, h => by
    cases h with
    | cons a b => show (d.plain && PyData.plainAll ds) = true; rw [Rp.plain a, Rps.plain b]; rfl
end
theorem Inv.reads (I : Inv X pins σ H s) {Z : List Addr} {x : V} {v : Value} {d : D} (rx : RelV x v) (r : Rp X.K (off Z H) x d) : ∃ as, Reads s.heap v d as :=
  Dp.reads I d x v (Rp.dp (r.mono off_le)) rx
theorem Inv.readsAll (I : Inv X pins σ H s) {Z : List Addr} {xs : List V} {vs : List Value} {ds : List D} (rx : Vals xs vs) (r : Rps X.K (off Z H) xs ds) : ∃ as, ReadsAll s.heap vs ds as :=
  Dp.readsAll I ds xs vs (Rps.dp (r.mono off_le)) rx
end

/-! ### two-place operations -/
abbrev G2 := D → D → (D → Prop) → Prop
abbrev G1 := D → (D → Prop) → Prop
abbrev GL := List D → (D → Prop) → Prop
def OpD (X : Cx) (f : Value → Value → Sem Value) (g : G2) : Prop :=
  ∀ (pins : List (Addr × Obj)) (s : Shared) (σ : L2.St) (H : Hp) (x y : V) (v u : Value) (w : Wd) (O : List Addr) (dx dy : D) (P : D → Prop) (Q : VK), Inv X pins σ H s → RelV x v → RelV y u → Wok w O H →
    Rp X.K (off (w.Z ++ O) H) x dx → Rp X.K (off (w.Z ++ O) H) y dy → g dx dy P → (∀ d v H', P d → Stp w H H' → Rp X.K (off (w.Z ++ O) H') v d → Q v H') →
    wpAny (model X.prog X.w) X.A (f v u) (EP X pins σ Q) X.xe s
def dOp (g : G2) (fa fb : DE) : DE := fun ρ P => fa ρ fun x => fb ρ fun y => g x y P
def CallD (X : Cx) (f : Value) (g : GL) : Prop :=
  ∀ (pins : List (Addr × Obj)) (s : Shared) (σ : L2.St) (H : Hp) (xs : List V) (us : List Value) (w : Wd) (O : List Addr) (ds : List D) (P : D → Prop) (Q : VK), Inv X pins σ H s → Vals xs us → Wok w O H →
    Rps X.K (off (w.Z ++ O) H) xs ds → g ds P → (∀ d v H', P d → Stp w H H' → Rp X.K (off (w.Z ++ O) H') v d → Q v H') →
    wpAny (model X.prog X.w) X.A (call f us) (EP X pins σ Q) X.xe s
def dCB (g : GL) (fa : DA) : DE := fun ρ P => fa ρ fun ds => g ds P

section
variable {X : Cx} {a b c e : Expr} {es : List Expr} {fa fb fc : DE} {ta tb tc : DT} {fas : DA} {pos : Pos}
/-- two expressions in a row -/
theorem bin2 (ha : QE X a fa) (hb : QE X b fb) {pins : List (Addr × Obj)} {s : Shared} {σ : L2.St} {H : Hp} {w : Wd} {H0 : Hp} {kp : List (V × D)} {O : List Addr} {ρ : Env} {R : D → D → Prop}
    (I : Inv X pins σ H s) (rep : Rep X.K w H0 kp O H σ ρ) (h : fa ρ fun x => fb ρ fun y => R x y) {C : Value → Value → Shared → Prop}
    (hf : ∀ v u s2 x y H2 dx dy, Inv X pins σ H2 s2 → RelV x v → RelV y u → Stp w H H2 → Rep X.K w H0 kp O H2 σ ρ → Rp X.K (off (w.Z ++ O) H2) x dx → Rp X.K (off (w.Z ++ O) H2) y dy → R dx dy → C v u s2) :
    wpAny (model X.prog X.w) X.A (eval a X.env) (fun v s₁ => wpAny (model X.prog X.w) X.A (eval b X.env) (fun u s₂ => C v u s₂) X.xe s₁) X.xe s := by
  refine thn (ha.pe.run pins s σ H (fun x H1 => ∃ dx, Stp w H H1 ∧ Rp X.K (off (w.Z ++ O) H1) x dx ∧ fb ρ fun y => R dx y) I (rep.go h fun d v H' p s1 _ r => ⟨d, s1, r, p⟩)) fun v s1 ⟨x, H1, I1, r1, dx, st1, rp1, q1⟩ => ?_
  have rep1 := rep.stp st1
  refine thn (hb.pe.run pins s1 σ H1 (fun y H2 => ∃ dy, Stp w H1 H2 ∧ Rp X.K (off (w.Z ++ O) H2) y dy ∧ R dx dy) I1 (rep1.go q1 fun d v H' p s2 _ r => ⟨d, s2, r, p⟩)) fun u s2 ⟨y, H2, I2, r2, dy, st2, rp2, q2⟩ => ?_
  exact hf v u s2 x y H2 dx dy I2 r1 r2 (st1.trans st2) (rep1.stp st2) (rp1.mono (rep1.off st2)) rp2 q2
theorem one1 (ha : QE X a fa) {pins : List (Addr × Obj)} {s : Shared} {σ : L2.St} {H : Hp} {w : Wd} {H0 : Hp} {kp : List (V × D)} {O : List Addr} {ρ : Env} {R : D → Prop}
    (I : Inv X pins σ H s) (rep : Rep X.K w H0 kp O H σ ρ) (h : fa ρ R) {C : Value → Shared → Prop}
    (hf : ∀ v s2 x H2 dx, Inv X pins σ H2 s2 → RelV x v → Stp w H H2 → Rep X.K w H0 kp O H2 σ ρ → Rp X.K (off (w.Z ++ O) H2) x dx → R dx → C v s2) :
    wpAny (model X.prog X.w) X.A (eval a X.env) C X.xe s := by
  refine thn (ha.pe.run pins s σ H (fun x H1 => ∃ dx, Stp w H H1 ∧ Rp X.K (off (w.Z ++ O) H1) x dx ∧ R dx) I (rep.go h fun d v H' p s1 _ r => ⟨d, s1, r, p⟩)) fun v s1 ⟨x, H1, I1, r1, dx, st1, rp1, q1⟩ => ?_
  exact hf v s1 x H1 dx I1 r1 st1 (rep.stp st1) rp1 q1
theorem argsR (ha : QA X es fas) {pos : Pos} {pins : List (Addr × Obj)} {s : Shared} {σ : L2.St} {H : Hp} {w : Wd} {H0 : Hp} {kp : List (V × D)} {O : List Addr} {ρ : Env} {R : List D → Prop}
    (I : Inv X pins σ H s) (rep : Rep X.K w H0 kp O H σ ρ) (h : fas ρ R) {C : List Value → Shared → Prop}
    (hf : ∀ vs s2 xs H2 ds, Inv X pins σ H2 s2 → Vals xs vs → Stp w H H2 → Rep X.K w H0 kp O H2 σ ρ → Rps X.K (off (w.Z ++ O) H2) xs ds → R ds → C vs s2) :
    wpAny (model X.prog X.w) X.A (spliced (backTo pos (starEach es X.env))) C X.xe s := by
  refine thn (ha.pa.run pos pins s σ H (fun xs H1 => ∃ ds, Stp w H H1 ∧ Rps X.K (off (w.Z ++ O) H1) xs ds ∧ R ds) I (rep.goA h fun d v H' p s1 _ r => ⟨d, s1, r, p⟩)) fun v s1 ⟨x, H1, I1, r1, dx, st1, rp1, q1⟩ => ?_
  exact hf v s1 x H1 dx I1 r1 st1 (rep.stp st1) rp1 q1
theorem qe_op {op : Operator} {g : G2} (ho : OpD X (binaryOp op) g) (ha : QE X a fa) (hb : QE X b fb) : QE X (.BinOp a op b pos) (dOp g fa fb) := by
  refine ⟨⟨fun pins s σ H Q I h => ?_⟩⟩
  obtain ⟨w, H0, kp, O, ρ, P, rep, h, q⟩ := h
  refine wpAny_BinOp (bin2 ha hb I rep h fun v u s2 x y H2 dx dy I2 rx ry st rep2 px py r => ?_)
  exact ho pins s2 σ H2 x y v u w O dx dy P Q I2 rx ry rep2.wok px py r fun d v H' p s r => q d v H' p (st.trans s) r
theorem qe_cmp {op : CmpOp} {g : G2} (ho : OpD X (compareOp op) g) (ha : QE X a fa) (hb : QE X b fb) (hm : behindInMarks op b = false) : QE X (.Compare a [op] [b] pos) (dOp g fa fb) := by
  refine ⟨⟨fun pins s σ H Q I h => ?_⟩⟩
  obtain ⟨w, H0, kp, O, ρ, P, rep, h, q⟩ := h
  refine wpAny_Compare1 (bin2 ha hb I rep h fun v u s2 x y H2 dx dy I2 rx ry st rep2 px py r => ?_) hm
  exact ho pins s2 σ H2 x y v u w O dx dy P Q I2 rx ry rep2.wok px py r fun d v H' p s r => q d v H' p (st.trans s) r
def dTest (f : DE) : DT := fun ρ P => f ρ fun x => ∃ k, x = .bool k ∧ P k
theorem qt_cmp {op : CmpOp} {g : G2} (ho : OpD X (compareOp op) g) (ha : QE X a fa) (hb : QE X b fb) (hm : behindInMarks op b = false) : QT X (.Compare a [op] [b] pos) (dTest (dOp g fa fb)) := by
  refine ⟨⟨fun pins s σ H Q I h => ?_⟩⟩
  obtain ⟨w, H0, kp, O, ρ, P, rep, h, q⟩ := h
  refine wpAny_isTrue_Compare1 (bin2 ha hb I rep h fun v u s2 x y H2 dx dy I2 rx ry st rep2 px py r => ?_) hm
  refine thn (ho pins s2 σ H2 x y v u w O dx dy _ (fun v' H' => ∃ k, v' = .bl k ∧ Stp w H2 H' ∧ P k) I2 rx ry rep2.wok px py r fun d v' H' p s r => ?_) fun c s3 ⟨z, H3, I3, r3, k, e, st3, p3⟩ => ?_
  · obtain ⟨k, rfl, p⟩ := p
    exact ⟨k, r.bool_inv, s, p⟩
  · subst e
    cases r3
    exact wpAny_truthy_bool ⟨H3, I3, q k H3 p3 (st.trans st3)⟩
/-- an expression whose value is a bool, as a test -/
theorem qt_val (h : QE X e fa) (he : ∀ whole, isTrue e X.env whole = (do let v ← whole; standAt e.pos; holding [v] (truthy v)) := by intro _; rfl) : QT X e (dTest fa) :=
  ⟨pt_imp (pt_val h.pe he) fun σ H Q ⟨w, H0, kp, O, ρ, P, rep, h, q⟩ => rep.go h fun d v H' ⟨k, ek, p⟩ st rep' r => by
    subst ek; exact ⟨k, r.bool_inv, q k H' p st⟩⟩
/-! ### names, constants -/
def dVar (i : Nat) : DE := fun ρ P => ∃ x, ρ[i]? = some (some (.d x)) ∧ P x
def dC (x : D) : DE := fun _ P => P x
theorem qv (i : Nat) {x : Str} {pos : Pos} (hN : X.N[i]? = some x := by rfl) (hv : Vis X.env.scope x := by first | exact Or.inl rfl | exact Or.inr (Or.inl rfl) | exact Or.inr (Or.inr rfl)) (hd : (x == ("__debug__" : Str)) = false := by decide)
    (hcd : (x == ("__classdict__" : Str)) = false := by decide) : QE X (.Name x pos) (dVar i) :=
  ⟨pe_imp (pe_var hN hv hd hcd) fun σ H Q ⟨w, H0, kp, O, ρ, P, rep, ⟨x, h1, h2⟩, q⟩ => by
    obtain ⟨v, e, r⟩ := rep.var i _ h1
    exact ⟨v, e, q x v H h2 (Stp.refl rep.r) r⟩⟩
theorem qe_int {i j pos} : QE X (.Constant (.int i) j pos) (dC (.int i)) := ⟨pe_imp pe_int fun σ H Q ⟨w, H0, kp, O, ρ, P, rep, h, q⟩ => q _ _ _ h (Stp.refl rep.r) (.int i)⟩
theorem qe_bl {i j pos} : QE X (.Constant (.bool i) j pos) (dC (.bool i)) := ⟨pe_imp pe_bl fun σ H Q ⟨w, H0, kp, O, ρ, P, rep, h, q⟩ => q _ _ _ h (Stp.refl rep.r) (.bl i)⟩
theorem qe_str {i j pos} : QE X (.Constant (.str i) j pos) (dC (.str i)) := ⟨pe_imp pe_str fun σ H Q ⟨w, H0, kp, O, ρ, P, rep, h, q⟩ => q _ _ _ h (Stp.refl rep.r) (.str i)⟩
theorem qe_non {j pos} : QE X (.Constant .none j pos) (dC .none) := ⟨pe_imp pe_non fun σ H Q ⟨w, H0, kp, O, ρ, P, rep, h, q⟩ => q _ _ _ h (Stp.refl rep.r) .non⟩
/-- a module's constant -/
theorem qe_glob {x : Str} {v : V} {u : Value} {d : D} {pos : Pos} (hg : Gl X x) (hm : X.mg x = some u) (r : RelV v u) (rd : ∀ H, Rp X.K H v d) (hd : (x == ("__debug__" : Str)) = false := by decide) : QE X (.Name x pos) (dC d) :=
  ⟨pe_imp (pe_glob hg hm r hd) fun σ H Q ⟨w, H0, kp, O, ρ, P, rep, h, q⟩ => q _ _ _ h (Stp.refl rep.r) (rd _)⟩

/-! ### arguments, displays, calls of built-ins -/
def dNil : DA := fun _ P => P []
def dCons (f : DE) (g : DA) : DA := fun ρ P => f ρ fun x => g ρ fun xs => P (x :: xs)
theorem qa_nil : QA X [] dNil := ⟨pa_imp pa_nil fun σ H Q ⟨w, H0, kp, O, ρ, P, rep, h, q⟩ => q _ _ _ h (Stp.refl rep.r) .nil⟩
theorem qa_cons (ha : QE X e fa) (hr : QA X es fas) (hs : starEach (e :: es) X.env = (false, eval e X.env) :: starEach es X.env := by rfl) : QA X (e :: es) (dCons fa fas) :=
  ⟨pa_imp (pa_cons ha.pe hr.pa hs) fun σ H Q ⟨w, H0, kp, O, ρ, P, rep, h, q⟩ => rep.go h fun d v H1 h1 s1 rep1 r1 => rep1.goA h1 fun ds vs H2 h2 s2 rep2 r2 =>
    q _ _ _ h2 (s1.trans s2) (.cons (r1.mono (rep1.off s2)) r2)⟩
def dTup (fa : DA) : DE := fun ρ P => fa ρ fun ds => ds.length ≤ sizeLine ∧ P (.tuple ds)
def dLst (fa : DA) : DE := fun ρ P => fa ρ fun ds => ds.length ≤ sizeLine ∧ P (.list ds)
theorem qe_tup {x1} (h : QA X es fas) : QE X (.Tuple es x1 pos) (dTup fas) :=
  ⟨pe_imp (pe_tup h.pa) fun σ H Q ⟨w, H0, kp, O, ρ, P, rep, h, q⟩ => rep.goA h fun ds vs H1 h1 s1 rep1 r1 =>
    ⟨by rw [r1.length]; exact h1.1, fun p hp => q _ _ _ h1.2 (s1.trans (Stp.laid rep1.r hp)) (rep1.wok.tup hp r1)⟩⟩
theorem qe_lst (h : QA X es fas) : QE X (.List es pos) (dLst fas) :=
  ⟨pe_imp (pe_lst h.pa) fun σ H Q ⟨w, H0, kp, O, ρ, P, rep, h, q⟩ => rep.goA h fun ds vs H1 h1 s1 rep1 r1 =>
    ⟨by rw [r1.length]; exact h1.1, fun p hp => q _ _ _ h1.2 (s1.trans (Stp.laid rep1.r hp)) (rep1.wok.lst hp r1)⟩⟩
theorem qe_callB {id : String} {g : GL} {x : Str} {p : Pos} (hc : CallD X (.builtin id) g) (hg : Gl X x) (hm : X.mg x = none) (hv : bootBuiltins x = some (.builtin id)) (ha : QA X (e :: es) fas) (hn : x ≠ "__name__" := by decide) (hdb : (x == ("__debug__" : Str)) = false := by decide)
    (he : starEach (e :: es) X.env = (false, eval e X.env) :: starEach es X.env := by rfl) (hpl : (backTo pos (starEach es X.env)).any (·.1) = false := by rfl) : QE X (.Call (.Name x p) (e :: es) [] pos) (dCB g fas) := by
  refine ⟨⟨fun pins s σ H Q I h => ?_⟩⟩
  obtain ⟨w, H0, kp, O, ρ, P, rep, h, q⟩ := h
  refine wpAny_Call_Name_kw (ld_blt I hg hm hv ?_ hn hdb)
  exact PyProof.Rows.callWith_builtin1 (argsR ha I rep h fun us s1 vs H1 ds I1 r1 st rep1 rp1 q1 => hc pins s1 σ H1 vs us w O ds P Q I1 r1 rep1.wok rp1 q1 fun d v H' p s r => q d v H' p (st.trans s) r) he hpl
theorem qe_callTy {T : String} {g : GL} {x : Str} {p : Pos} (hc : CallD X (.type T) g) (hg : Gl X x) (hm : X.mg x = none) (hv : bootBuiltins x = some (.type T)) (ha : QA X (e :: es) fas) (hn : x ≠ "__name__" := by decide) (hdb : (x == ("__debug__" : Str)) = false := by decide)
    (he : starEach (e :: es) X.env = (false, eval e X.env) :: starEach es X.env := by rfl) (hpl : (backTo pos (starEach es X.env)).any (·.1) = false := by rfl) : QE X (.Call (.Name x p) (e :: es) [] pos) (dCB g fas) := by
  refine ⟨⟨fun pins s σ H Q I h => ?_⟩⟩
  obtain ⟨w, H0, kp, O, ρ, P, rep, h, q⟩ := h
  refine wpAny_Call_Name_kw (ld_blt I hg hm hv ?_ hn hdb)
  exact PyProof.Rows.callWith_type1 (argsR ha I rep h fun us s1 vs H1 ds I1 r1 st rep1 rp1 q1 => hc pins s1 σ H1 vs us w O ds P Q I1 r1 rep1.wok rp1 q1 fun d v H' p s r => q d v H' p (st.trans s) r) he hpl

/-! ### tests -/
def dAnd (f g : DT) : DT := fun ρ P => f ρ fun c => if c = true then g ρ P else P false
def dOr (f g : DT) : DT := fun ρ P => f ρ fun c => if c = true then P true else g ρ P
def dNot (f : DT) : DT := fun ρ P => f ρ fun c => P (!c)
theorem qw_and1 (ha : QT X a ta) : QW X (.BoolOp .And [a] pos) ta := ⟨pw_and1 ha.pt⟩
theorem qw_or1 (ha : QT X a ta) : QW X (.BoolOp .Or [a] pos) ta := ⟨pw_or1 ha.pt⟩
theorem qw_and {rest : List Expr} (ha : QT X a ta) (hb : QW X (.BoolOp .And (b :: rest) pos) tb) : QW X (.BoolOp .And (a :: b :: rest) pos) (dAnd ta tb) :=
  ⟨pw_imp (pw_and ha.pt hb.pw) fun σ H Q ⟨w, H0, kp, O, ρ, P, rep, h, q⟩ => rep.goT h fun c H1 h1 s1 rep1 => by
    cases c with
    | true => simp only [if_true] at h1 ⊢; exact rep1.goT h1 fun c2 H2 h2 s2 _ => q _ _ h2 (s1.trans s2)
    | false => simp only [Bool.false_eq_true, if_false] at h1 ⊢; exact q _ _ h1 s1⟩
theorem qw_or {rest : List Expr} (ha : QT X a ta) (hb : QW X (.BoolOp .Or (b :: rest) pos) tb) : QW X (.BoolOp .Or (a :: b :: rest) pos) (dOr ta tb) :=
  ⟨pw_imp (pw_or ha.pt hb.pw) fun σ H Q ⟨w, H0, kp, O, ρ, P, rep, h, q⟩ => rep.goT h fun c H1 h1 s1 rep1 => by
    cases c with
    | false => simp only [Bool.false_eq_true, if_false] at h1 ⊢; exact rep1.goT h1 fun c2 H2 h2 s2 _ => q _ _ h2 (s1.trans s2)
    | true => simp only [if_true] at h1 ⊢; exact q _ _ h1 s1⟩
theorem qt_not (ha : QT X a ta) : QT X (.UnaryOp .Not a pos) (dNot ta) :=
  ⟨pt_imp (pt_not ha.pt) fun σ H Q ⟨w, H0, kp, O, ρ, P, rep, h, q⟩ => rep.goT h fun c H1 h1 s1 rep1 => q _ _ h1 s1⟩
/-- .. as values -/
def dAndV (f g : DE) : DE := fun ρ P => f ρ fun x => ∃ c, x = .bool c ∧ if c = true then g ρ P else P (.bool false)
def dOrV (f g : DE) : DE := fun ρ P => f ρ fun x => ∃ c, x = .bool c ∧ if c = true then P (.bool true) else g ρ P
def dNotV (f : DE) : DE := fun ρ P => f ρ fun x => ∃ c, x = .bool c ∧ P (.bool (!c))
theorem qe_one {op} (h : QE X a fa) : QE X (.BoolOp op [a] pos) fa := ⟨pe_one h.pe⟩
theorem qe_and {rest : List Expr} (ha : QE X a fa) (hb : QE X (.BoolOp .And (b :: rest) pos) fb) : QE X (.BoolOp .And (a :: b :: rest) pos) (dAndV fa fb) :=
  ⟨pe_imp (pe_and ha.pe hb.pe) fun σ H Q ⟨w, H0, kp, O, ρ, P, rep, h, q⟩ => rep.go h fun d v H1 ⟨c, ec, h1⟩ s1 rep1 r1 => by
    subst ec
    refine ⟨c, r1.bool_inv, ?_⟩
    cases c with
    | true => simp only [if_true] at h1 ⊢; exact rep1.go h1 fun d2 v2 H2 h2 s2 _ r2 => q _ _ _ h2 (s1.trans s2) r2
    | false => simp only [Bool.false_eq_true, if_false] at h1 ⊢; exact q _ _ _ h1 s1 (.bl false)⟩
theorem qe_or {rest : List Expr} (ha : QE X a fa) (hb : QE X (.BoolOp .Or (b :: rest) pos) fb) : QE X (.BoolOp .Or (a :: b :: rest) pos) (dOrV fa fb) :=
  ⟨pe_imp (pe_or ha.pe hb.pe) fun σ H Q ⟨w, H0, kp, O, ρ, P, rep, h, q⟩ => rep.go h fun d v H1 ⟨c, ec, h1⟩ s1 rep1 r1 => by
    subst ec
    refine ⟨c, r1.bool_inv, ?_⟩
    cases c with
    | false => simp only [Bool.false_eq_true, if_false] at h1 ⊢; exact rep1.go h1 fun d2 v2 H2 h2 s2 _ r2 => q _ _ _ h2 (s1.trans s2) r2
    | true => simp only [if_true] at h1 ⊢; exact q _ _ _ h1 s1 (.bl true)⟩
theorem qe_not (ha : QE X a fa) : QE X (.UnaryOp .Not a pos) (dNotV fa) :=
  ⟨pe_imp (pe_not ha.pe) fun σ H Q ⟨w, H0, kp, O, ρ, P, rep, h, q⟩ => rep.go h fun d v H1 ⟨c, ec, h1⟩ s1 rep1 r1 => by
    subst ec; exact ⟨c, r1.bool_inv, q _ _ _ h1 s1 (.bl _)⟩⟩
def dIf (t : DT) (f g : DE) : DE := fun ρ P => t ρ fun c => if c = true then f ρ P else g ρ P
theorem qe_ifExp (hc : QT X c tc) (ha : QE X a fa) (hb : QE X b fb) : QE X (.IfExp c a b pos) (dIf tc fa fb) :=
  ⟨pe_imp (pe_ifExp hc.pt ha.pe hb.pe) fun σ H Q ⟨w, H0, kp, O, ρ, P, rep, h, q⟩ => rep.goT h fun c H1 h1 s1 rep1 => by
    cases c with
    | true => simp only [if_true] at h1 ⊢; exact rep1.go h1 fun d2 v2 H2 h2 s2 _ r2 => q _ _ _ h2 (s1.trans s2) r2
    | false => simp only [Bool.false_eq_true, if_false] at h1 ⊢; exact rep1.go h1 fun d2 v2 H2 h2 s2 _ r2 => q _ _ _ h2 (s1.trans s2) r2⟩
end
end Dw

set_option maxHeartbeats 1000000
namespace Dw
open PySem PySem.Spec PyProof.Rows L2 PySem.MeetsSeq
open AutoSeq1 (wpAny_loadPart')
open PySem.MeetsSeq PySem.MeetsSeq2 PySem.MeetsSeq3 PySem.SeqRoads2
theorem tuple_mul_same (l : Addr) (items : Array Value) (n : Nat) (sl : Array (Option Value)) (dd : Option Addr) (x : Int) (u : Tok) (c0 : (decide (x < -(2 ^ 63)) || decide (x ≥ 2 ^ 63)) = false) (c1 : (items.isEmpty || x == 1) = true) :
    Meets (Builtin.«tuple.__mul__» ⟨[.ref l, .int x u], []⟩) (fun _ R s => s.heap.get? l = some { cls := .type "tuple", dict := dd, data := .seq items n, slots := sl } ∧
      R (.ok (.ret (Value.ref l))) s) :=
  .of_wp fun prog w A R s h => by
    obtain ⟨hp, g, d, tk, os⟩ := s
    obtain ⟨hl, h⟩ := h
    have f1 := AutoSeq1.idx_int
    wp_walk using wpAny_loadPart' hl
    repeat (first
      | (refine wpAny_ite_false (decide_eq_false (by rw [c0]; exact Bool.false_ne_true)) ?_; wp_walk using wpAny_loadPart' hl)
      | (refine wpAny_ite_true (decide_eq_true (by rw [c1])) ?_; wp_walk using wpAny_loadPart' hl))
    exact ⟨_, rfl, h⟩
theorem tuple_mul_none (l : Addr) (items : Array Value) (n : Nat) (dd : Option Addr) (sl : Array (Option Value)) (x : Int) (u : Tok) (c0 : (decide (x < -(2 ^ 63)) || decide (x ≥ 2 ^ 63)) = false) (c1 : (items.isEmpty || x == 1) = false) (c2 : (decide (x ≤ 0) || items.isEmpty) = true) :
    Meets (Builtin.«tuple.__mul__» ⟨[.ref l, .int x u], []⟩) (fun _ R s => s.heap.get? l = some { cls := .type "tuple", dict := dd, data := .seq items n, slots := sl } ∧
      R (.ok (.ret (Value.ref s.heap.objs.size))) { s with heap := s.heap.push { cls := Value.type "tuple", data := Data.seq #[] }, toks := s.toks }) :=
  .of_wp fun prog w A R s h => by
    obtain ⟨hp, g, d, tk, os⟩ := s
    obtain ⟨hl, h⟩ := h
    have f1 := AutoSeq1.idx_int
    wp_walk using wpAny_loadPart' hl
    repeat (first
      | (refine wpAny_ite_false (decide_eq_false (by rw [c0]; exact Bool.false_ne_true)) ?_; wp_walk using wpAny_loadPart' hl)
      | (refine wpAny_ite_false (decide_eq_false (by rw [c1]; exact Bool.false_ne_true)) ?_; wp_walk using wpAny_loadPart' hl)
      | (refine wpAny_ite_true (decide_eq_true (by rw [c2])) ?_; wp_walk using wpAny_loadPart' hl))
    exact ⟨_, rfl, h⟩

def rRepA (K : PySem.W.Frag) : R2 := fun x y H Q => ∃ l k xs, x = .ref l ∧ y = .int k ∧ SqT K H l xs ∧ -(2 ^ 62) ≤ k ∧ k ≤ 1000 ∧ xs.length ≤ 1000 ∧
  ((xs = [] ∨ k = 1) → Q (.ref l) H) ∧ (¬ (xs = [] ∨ k = 1) → ∀ p, H p = none → Q (.ref p) (upd H p (.tup (List.replicate k.toNat xs).flatten)))
theorem op_repA {X : Cx} : OpR X (binaryOp .Mult) (rRepA X.K) := by
  intro pins s σ H x y v u Q I rx ry h
  obtain ⟨l, k, xs, rfl, rfl, hT, h1, h2, hz, q1, q2⟩ := h
  by_cases hb : xs ≠ [] ∧ 2 ≤ k
  · exact op_repT pins s σ H _ _ v u Q I rx ry ⟨l, k, xs, rfl, rfl, hT, hb.1, hb.2, h2, hz, q2 (by rintro (e | e); exact hb.1 e; omega)⟩
  cases rx
  obtain ⟨t, rfl⟩ := ry
  obtain ⟨its, r, ⟨⟨cls, dd, data, sl⟩, ho, hc, n, hd⟩, hs⟩ := I.tuple hT
  simp only at hc hd
  subst hc hd
  have hle : its.length = xs.length := r.length.symm
  have c0 : (decide (k < -(2 ^ 63)) || decide (k ≥ 2 ^ 63)) = false := by
    rw [decide_eq_false (by omega), decide_eq_false (by omega)] <;> rfl
  by_cases hs1 : xs = [] ∨ k = 1
  · have c1 : (its.toArray.isEmpty || k == 1) = true := by
      rcases hs1 with e | e
      · subst e
        have : its = [] := List.eq_nil_of_length_eq_zero (by rw [hle]; rfl)
        subst this; rfl
      · subst e; simp
    exact wpAny_binaryOp_repeat_ref (T := "tuple") (U := "int") (by decide) ⟨_, ho, rfl⟩ (fun s' => typeIs_int s' k t) noFill_tuple_mul F.fills_int_mul F.slot_int_rmul repeat_tuple F.slot_int_index.lookup
      (call_meets F.slot_int_rmul (typeIs_int s k t) F.entry_int_rmul (F.args_int_rmul_2 _ _) (int_rmul_tuple k t l its.toArray n dd sl)
        ⟨ho, rfl, ⟨_, ho, rfl⟩, call_meets F.slot_tuple_mul ⟨_, ho, rfl⟩ F.entry_tuple_mul (F.args_tuple_mul_2 _ _) (tuple_mul_same l its.toArray n sl dd k t c0 c1) ⟨ho, ⟨.ref l, H, I, rfl, q1 hs1⟩⟩⟩)
  · have hne : xs ≠ [] := fun e => hs1 (.inl e)
    have hk0 : k ≤ 0 := by
      have a1 : k ≠ 1 := fun e => hs1 (.inr e)
      have a2 : ¬ 2 ≤ k := fun e => hb ⟨hne, e⟩
      omega
    have hi : its.toArray.isEmpty = false := by
      cases its with
      | nil => exact absurd (List.eq_nil_of_length_eq_zero hle.symm) hne
      | cons a b => rfl
    have c1 : (its.toArray.isEmpty || k == 1) = false := by
      rw [hi, Bool.false_or]
      exact beq_eq_false_iff_ne.mpr (by omega)
    have c2 : (decide (k ≤ 0) || its.toArray.isEmpty) = true := by
      rw [decide_eq_true hk0]; rfl
    refine wpAny_binaryOp_repeat_ref (T := "tuple") (U := "int") (by decide) ⟨_, ho, rfl⟩ (fun s' => typeIs_int s' k t) noFill_tuple_mul F.fills_int_mul F.slot_int_rmul repeat_tuple F.slot_int_index.lookup
      (call_meets F.slot_int_rmul (typeIs_int s k t) F.entry_int_rmul (F.args_int_rmul_2 _ _) (int_rmul_tuple k t l its.toArray n dd sl)
        ⟨ho, rfl, ⟨_, ho, rfl⟩, call_meets F.slot_tuple_mul ⟨_, ho, rfl⟩ F.entry_tuple_mul (F.args_tuple_mul_2 _ _) (tuple_mul_none l its.toArray n dd sl k t c0 c1 c2) ⟨ho, ?_⟩⟩)
    have e0 : (List.replicate k.toNat xs).flatten = [] := by rw [show k.toNat = 0 by omega]; rfl
    refine ⟨.ref s.heap.objs.size, _, I.laid (t' := s.toks) (o := .tup (List.replicate k.toNat xs).flatten) (fun b ob q => Heap.get?_push_of_some _ q) (Nat.le_refl _) ?_, rfl, q2 hs1 _ (I.hok.fresh (Nat.le_refl _))⟩
    rw [e0]
    exact ⟨Nat.zero_le _, [], .nil, IsTup.new _ _⟩
end Dw

namespace Dw
open PySem PySem.Spec PyProof.Rows L2

/-! ### operators on data -/
def addD : G2 := fun x y P => match x, y with
  | .int i, .int j => P (.int (i + j))
  | .list a, .list b => a.length + b.length ≤ sizeLine ∧ P (.list (a ++ b))
  | .tuple a, .tuple b => a.length + b.length ≤ sizeLine ∧ P (.tuple (a ++ b))
  | .str a, .str b => a.length + b.length ≤ sizeLine ∧ P (.str (a ++ b))
  | _, _ => False
def subD : G2 := fun x y P => match x, y with
  | .int i, .int j => P (.int (i - j))
  | _, _ => False
def MulOk (i j : Int) : Prop := CMul i j ∨ CMulW i j
def mulD : G2 := fun x y P => match x, y with
  | .int i, .int j => MulOk i j ∧ P (.int (i * j))
  | .list a, .int k => (-(2 ^ 63) ≤ k ∧ k < 2 ^ 63 ∧ a.length * k.toNat ≤ sizeLine) ∧ P (.list (List.replicate k.toNat a).flatten)
  | .tuple a, .int k => (-(2 ^ 62) ≤ k ∧ k ≤ 1000 ∧ a.length ≤ 1000) ∧ P (.tuple (List.replicate k.toNat a).flatten)
  | _, _ => False
def fdivD : G2 := fun x y P => match x, y with
  | .int i, .int j => (0 < j ∧ j.natAbs.log2 < 9000) ∧ P (.int (i / j))
  | _, _ => False
def modD : G2 := fun x y P => match x, y with
  | .int i, .int j => 0 < j ∧ P (.int (i % j))
  | _, _ => False
def powD : G2 := fun x y P => match x, y with
  | .int i, .int j => CPow i j ∧ P (.int (i ^ j.toNat))
  | _, _ => False
section
variable {X : Cx}
theorem Rps.rep {K : PySem.W.Frag} {H : Hp} {xs : List V} {ds : List D} (h : Rps K H xs ds) : ∀ n : Nat, Rps K H (List.replicate n xs).flatten (List.replicate n ds).flatten
  | 0 => .nil
  | n + 1 => by
    rw [List.replicate_succ, List.replicate_succ, List.flatten_cons, List.flatten_cons]
    exact h.append (Rps.rep h n)
theorem od_add : OpD X (binaryOp .Add) addD := by
  intro pins s σ H x y v u w O dx dy P Q I rx ry k px py h q
  unfold addD at h
  split at h
  · cases px; cases py
    exact op_add pins s σ H _ _ v u Q I rx ry ⟨_, _, rfl, rfl, q _ _ _ h (Stp.refl k.r) (.int _)⟩
  · obtain ⟨l, xs, rfl, e1, r1⟩ := px.list_inv
    obtain ⟨l2, ys, rfl, e2, r2⟩ := py.list_inv
    refine op_cat pins s σ H _ _ v u Q I rx ry ⟨_, _, xs, ys, rfl, rfl, (off_some.mp e1).2, (off_some.mp e2).2, by rw [r1.length, r2.length]; exact h.1, fun p hp => ?_⟩
    exact q _ _ _ h.2 (Stp.laid k.r hp) (k.lst hp (r1.append r2))
  · obtain ⟨l, xs, rfl, e1, r1⟩ := px.tup_inv
    obtain ⟨l2, ys, rfl, e2, r2⟩ := py.tup_inv
    refine op_catA pins s σ H _ _ v u Q I rx ry ⟨_, _, xs, ys, rfl, rfl, sqT_off e1, sqT_off e2, by rw [r1.length, r2.length]; exact h.1, fun e => ?_, fun _ e => ?_, fun _ _ p hp => ?_⟩
    · subst e; cases r1; exact q _ _ _ h.2 (Stp.refl k.r) py
    · subst e; cases r2; exact q _ _ _ (by simpa using h.2) (Stp.refl k.r) px
    · exact q _ _ _ h.2 (Stp.laid k.r hp) (k.tup hp (r1.append r2))
  · cases px; cases py
    exact op_add_str pins s σ H _ _ v u Q I rx ry ⟨_, _, rfl, rfl, h.1, q _ _ _ h.2 (Stp.refl k.r) (.str _)⟩
  · exact h.elim
theorem od_sub : OpD X (binaryOp .Sub) subD := by
  intro pins s σ H x y v u w O dx dy P Q I rx ry k px py h q
  unfold subD at h
  split at h
  · cases px; cases py
    exact op_sub pins s σ H _ _ v u Q I rx ry ⟨_, _, rfl, rfl, q _ _ _ h (Stp.refl k.r) (.int _)⟩
  · exact h.elim
theorem od_mul : OpD X (binaryOp .Mult) mulD := by
  intro pins s σ H x y v u w O dx dy P Q I rx ry k px py h q
  unfold mulD at h
  split at h
  · cases px; cases py
    rcases h.1 with hm | hm
    · exact op_mul pins s σ H _ _ v u Q I rx ry ⟨_, _, rfl, rfl, hm, q _ _ _ h.2 (Stp.refl k.r) (.int _)⟩
    · exact op_mulW pins s σ H _ _ v u Q I rx ry ⟨_, _, rfl, rfl, hm, q _ _ _ h.2 (Stp.refl k.r) (.int _)⟩
  · obtain ⟨l, xs, rfl, e1, r1⟩ := px.list_inv
    cases py
    refine op_rep pins s σ H _ _ v u Q I rx ry ⟨_, _, xs, rfl, rfl, (off_some.mp e1).2, h.1.1, h.1.2.1, by rw [r1.length]; exact h.1.2.2, fun p hp => ?_⟩
    exact q _ _ _ h.2 (Stp.laid k.r hp) (k.lst hp (r1.rep _))
  · obtain ⟨l, xs, rfl, e1, r1⟩ := px.tup_inv
    cases py
    refine op_repA pins s σ H _ _ v u Q I rx ry ⟨_, _, xs, rfl, rfl, sqT_off e1, h.1.1, h.1.2.1, by rw [r1.length]; exact h.1.2.2, fun e => ?_, fun _ p hp => ?_⟩
    · refine q _ _ _ h.2 (Stp.refl k.r) ?_
      rcases e with e | e
      · subst e; cases r1
        simpa using px
      · subst e
        simpa using px
    · exact q _ _ _ h.2 (Stp.laid k.r hp) (k.tup hp (r1.rep _))
  · exact h.elim
theorem od_fdiv : OpD X (binaryOp .FloorDiv) fdivD := by
  intro pins s σ H x y v u w O dx dy P Q I rx ry k px py h q
  unfold fdivD at h
  split at h
  · cases px; cases py
    exact op_fdivW pins s σ H _ _ v u Q I rx ry ⟨_, _, rfl, rfl, h.1, q _ _ _ h.2 (Stp.refl k.r) (.int _)⟩
  · exact h.elim
theorem od_mod : OpD X (binaryOp .Mod) modD := by
  intro pins s σ H x y v u w O dx dy P Q I rx ry k px py h q
  unfold modD at h
  split at h
  · cases px; cases py
    exact op_mod pins s σ H _ _ v u Q I rx ry ⟨_, _, rfl, rfl, h.1, q _ _ _ h.2 (Stp.refl k.r) (.int _)⟩
  · exact h.elim
theorem od_pow : OpD X (binaryOp .Pow) powD := by
  intro pins s σ H x y v u w O dx dy P Q I rx ry k px py h q
  unfold powD at h
  split at h
  · cases px; cases py
    exact op_pow pins s σ H _ _ v u Q I rx ry ⟨_, _, rfl, rfl, h.1, q _ _ _ h.2 (Stp.refl k.r) (.int _)⟩
  · exact h.elim
def negD : G1 := fun x P => match x with
  | .int i => P (.int (-i))
  | _ => False
def dUn (g : G1) (fa : DE) : DE := fun ρ P => fa ρ fun x => g x P
theorem qe_neg {a : Expr} {fa : DE} {pos : Pos} (ha : QE X a fa) : QE X (.UnaryOp .USub a pos) (dUn negD fa) :=
  ⟨pe_imp (pe_un un_neg ha.pe) fun σ H Q ⟨w, H0, kp, O, ρ, P, rep, h, q⟩ => rep.go h fun d v H1 h1 s1 rep1 r1 => by
    unfold negD at h1
    split at h1
    · exact ⟨_, r1.int_inv, q _ _ _ h1 s1 (.int _)⟩
    · exact h1.elim⟩

/-! ### comparisons -/
def eqD : G2 := fun x y P => min x.depth y.depth ≤ 100 ∧ P (.bool (PyData.eqv x y))
def neD : G2 := fun x y P => min x.depth y.depth ≤ 100 ∧ P (.bool (!PyData.eqv x y))
def cmpOk (x y : D) : Prop := PySem.W.alike x y = true ∧ x ≠ .none ∧ min x.depth y.depth ≤ 100
def ltD : G2 := fun x y P => match x, y with
  | .int i, .int j => P (.bool (decide (i < j)))
  | x, y => cmpOk x y ∧ P (.bool (PySem.W.dataLt x y))
def gtD : G2 := fun x y P => match x, y with
  | .int i, .int j => P (.bool (decide (j < i)))
  | x, y => cmpOk x y ∧ P (.bool (PySem.W.dataLt y x))
def leD : G2 := fun x y P => match x, y with
  | .int i, .int j => P (.bool (decide (i ≤ j)))
  | x, y => cmpOk x y ∧ P (.bool (!PySem.W.dataLt y x))
def geD : G2 := fun x y P => match x, y with
  | .int i, .int j => P (.bool (decide (j ≤ i)))
  | x, y => cmpOk x y ∧ P (.bool (!PySem.W.dataLt x y))
def inD : G2 := fun x y P => match y with
  | .list ds => min (PyData.depthAll ds) x.depth ≤ 100 ∧ P (.bool (ds.any fun z => PyData.eqv z x))
  | .tuple ds => min (PyData.depthAll ds) x.depth ≤ 100 ∧ P (.bool (ds.any fun z => PyData.eqv z x))
  | _ => False
def ninD : G2 := fun x y P => match y with
  | .list ds => min (PyData.depthAll ds) x.depth ≤ 100 ∧ P (.bool (!ds.any fun z => PyData.eqv z x))
  | .tuple ds => min (PyData.depthAll ds) x.depth ≤ 100 ∧ P (.bool (!ds.any fun z => PyData.eqv z x))
  | _ => False
theorem od_eq (hu : X.A.units + 101 < cLine) : OpD X (compareOp .Eq) eqD := by
  intro pins s σ H x y v u w O dx dy P Q I rx ry k px py h q
  obtain ⟨as, r1⟩ := Inv.reads I rx px
  obtain ⟨bs, r2⟩ := Inv.reads I ry py
  have h1 := h.1
  exact SeqAt.eq_plain r1 r2 px.plain py.plain (by omega) ⟨.bl _, H, I, rfl, q _ _ _ h.2 (Stp.refl k.r) (.bl _)⟩
theorem od_ne (hu : X.A.units + 101 < cLine) : OpD X (compareOp .NotEq) neD := by
  intro pins s σ H x y v u w O dx dy P Q I rx ry k px py h q
  obtain ⟨as, r1⟩ := Inv.reads I rx px
  obtain ⟨bs, r2⟩ := Inv.reads I ry py
  have h1 := h.1
  exact SeqAt.ne_plain r1 r2 px.plain py.plain (by omega) ⟨.bl _, H, I, rfl, q _ _ _ h.2 (Stp.refl k.r) (.bl _)⟩
theorem od_lt (hu : X.A.units + 101 < cLine) : OpD X (compareOp .Lt) ltD := by
  intro pins s σ H x y v u w O dx dy P Q I rx ry k px py h q
  unfold ltD at h
  split at h
  · cases px; cases py
    exact op_lt pins s σ H _ _ v u Q I rx ry ⟨_, _, rfl, rfl, q _ _ _ h (Stp.refl k.r) (.bl _)⟩
  · obtain ⟨⟨ha, hn, hd⟩, h⟩ := h
    obtain ⟨as, r1⟩ := Inv.reads I rx px
    obtain ⟨bs, r2⟩ := Inv.reads I ry py
    exact PySem.W.lt_data r1 r2 ha hn (by omega) ⟨.bl _, H, I, rfl, q _ _ _ h (Stp.refl k.r) (.bl _)⟩
theorem od_gt (hu : X.A.units + 101 < cLine) : OpD X (compareOp .Gt) gtD := by
  intro pins s σ H x y v u w O dx dy P Q I rx ry k px py h q
  unfold gtD at h
  split at h
  · cases px; cases py
    exact op_gt pins s σ H _ _ v u Q I rx ry ⟨_, _, rfl, rfl, q _ _ _ h (Stp.refl k.r) (.bl _)⟩
  · obtain ⟨⟨ha, hn, hd⟩, h⟩ := h
    obtain ⟨as, r1⟩ := Inv.reads I rx px
    obtain ⟨bs, r2⟩ := Inv.reads I ry py
    exact PySem.W.gt_data r1 r2 ha hn (by omega) ⟨.bl _, H, I, rfl, q _ _ _ h (Stp.refl k.r) (.bl _)⟩
theorem od_le (hu : X.A.units + 101 < cLine) : OpD X (compareOp .LtE) leD := by
  intro pins s σ H x y v u w O dx dy P Q I rx ry k px py h q
  unfold leD at h
  split at h
  · cases px; cases py
    exact op_le pins s σ H _ _ v u Q I rx ry ⟨_, _, rfl, rfl, q _ _ _ h (Stp.refl k.r) (.bl _)⟩
  · obtain ⟨⟨ha, hn, hd⟩, h⟩ := h
    obtain ⟨as, r1⟩ := Inv.reads I rx px
    obtain ⟨bs, r2⟩ := Inv.reads I ry py
    exact PySem.W.le_data r1 r2 ha hn (by omega) ⟨.bl _, H, I, rfl, q _ _ _ h (Stp.refl k.r) (.bl _)⟩
theorem od_ge (hu : X.A.units + 101 < cLine) : OpD X (compareOp .GtE) geD := by
  intro pins s σ H x y v u w O dx dy P Q I rx ry k px py h q
  unfold geD at h
  split at h
  · cases px; cases py
    exact op_ge pins s σ H _ _ v u Q I rx ry ⟨_, _, rfl, rfl, q _ _ _ h (Stp.refl k.r) (.bl _)⟩
  · obtain ⟨⟨ha, hn, hd⟩, h⟩ := h
    obtain ⟨as, r1⟩ := Inv.reads I rx px
    obtain ⟨bs, r2⟩ := Inv.reads I ry py
    exact PySem.W.ge_data r1 r2 ha hn (by omega) ⟨.bl _, H, I, rfl, q _ _ _ h (Stp.refl k.r) (.bl _)⟩
theorem od_in (hu : X.A.units + 102 < cLine) : OpD X (compareOp .In) inD := by
  intro pins s σ H x y v u w O dx dy P Q I rx ry k px py h q
  obtain ⟨as, r1⟩ := Inv.reads I rx px
  obtain ⟨bs, r2⟩ := Inv.reads I ry py
  unfold inD at h
  split at h
  · have h1 := h.1
    exact SeqAt.in_list_data r2 r1 py.plain px.plain (by omega) ⟨.bl _, H, I, rfl, q _ _ _ h.2 (Stp.refl k.r) (.bl _)⟩
  · have h1 := h.1
    exact SeqAt.in_tuple_data r2 r1 py.plain px.plain (by omega) ⟨.bl _, H, I, rfl, q _ _ _ h.2 (Stp.refl k.r) (.bl _)⟩
  · exact h.elim
theorem od_nin (hu : X.A.units + 102 < cLine) : OpD X (compareOp .NotIn) ninD := by
  intro pins s σ H x y v u w O dx dy P Q I rx ry k px py h q
  obtain ⟨as, r1⟩ := Inv.reads I rx px
  obtain ⟨bs, r2⟩ := Inv.reads I ry py
  unfold ninD at h
  split at h
  · have h1 := h.1
    exact SeqAt.notIn_list_data r2 r1 py.plain px.plain (by omega) ⟨.bl _, H, I, rfl, q _ _ _ h.2 (Stp.refl k.r) (.bl _)⟩
  · have h1 := h.1
    exact SeqAt.notIn_tuple_data r2 r1 py.plain px.plain (by omega) ⟨.bl _, H, I, rfl, q _ _ _ h.2 (Stp.refl k.r) (.bl _)⟩
  · exact h.elim
def isNone : D → Bool
  | .none => true
  | _ => false
def isD : G2 := fun x y P => match y with
  | .none => P (.bool (isNone x))
  | .bool b => match x with
    | .bool a => P (.bool (decide (a = b)))
    | _ => False
  | _ => False
def isntD : G2 := fun x y P => match y with
  | .none => P (.bool (!isNone x))
  | .bool b => match x with
    | .bool a => P (.bool (!decide (a = b)))
    | _ => False
  | _ => False
theorem isNone_of {K : PySem.W.Frag} {H : Hp} {x : V} {d : D} (h : Rp K H x d) : decide (x = V.non) = isNone d := by
  cases h <;> simp [isNone]
theorem od_is : OpD X (compareOp .Is) isD := by
  intro pins s σ H x y v u w O dx dy P Q I rx ry k px py h q
  unfold isD at h
  split at h
  · cases py
    exact op_isN pins s σ H _ _ v u Q I rx ry ⟨rfl, by rw [isNone_of px]; exact q _ _ _ h (Stp.refl k.r) (.bl _)⟩
  · split at h
    · cases px; cases py
      exact op_is_bl pins s σ H _ _ v u Q I rx ry ⟨_, _, rfl, rfl, q _ _ _ h (Stp.refl k.r) (.bl _)⟩
    · exact h.elim
  · exact h.elim
theorem od_isnt : OpD X (compareOp .IsNot) isntD := by
  intro pins s σ H x y v u w O dx dy P Q I rx ry k px py h q
  unfold isntD at h
  split at h
  · cases py
    exact op_notN pins s σ H _ _ v u Q I rx ry ⟨rfl, by rw [isNone_of px]; exact q _ _ _ h (Stp.refl k.r) (.bl _)⟩
  · split at h
    · cases px; cases py
      exact op_isnot_bl pins s σ H _ _ v u Q I rx ry ⟨_, _, rfl, rfl, q _ _ _ h (Stp.refl k.r) (.bl _)⟩
    · exact h.elim
  · exact h.elim
end
end Dw

namespace Dw
open PySem PySem.Spec PyProof.Rows L2

/-! ### built-ins on data -/
def seqOf : D → Option (List D)
  | .list ds => some ds
  | .tuple ds => some ds
  | _ => none
def lenD : GL := fun ds P => match ds with
  | [.list a] => P (.int (a.length : Nat))
  | [.tuple a] => P (.int (a.length : Nat))
  | [.str x] => x.length ≤ sizeLine ∧ P (.int (x.length : Nat))
  | _ => False
def absD : GL := fun ds P => match ds with
  | [.int i] => P (.int (i.natAbs : Nat))
  | _ => False
def intD : GL := fun ds P => match ds with
  | [.int i] => P (.int i)
  | [.bool b] => P (.int (if b then 1 else 0))
  | _ => False
def max2D : GL := fun ds P => match ds with
  | [.int i, .int j] => P (.int (max i j))
  | _ => False
def min2D : GL := fun ds P => match ds with
  | [.int i, .int j] => P (.int (min i j))
  | _ => False
def maxL : GL := fun ds P => match ds with
  | [.list (d :: r)] => (PySem.W.AlikeAll (d :: r) ∧ PyData.depthAll (d :: r) ≤ 100) ∧ P (PySem.W.maxD d r)
  | [.tuple (d :: r)] => (PySem.W.AlikeAll (d :: r) ∧ PyData.depthAll (d :: r) ≤ 100) ∧ P (PySem.W.maxD d r)
  | _ => False
def minL : GL := fun ds P => match ds with
  | [.list (d :: r)] => (PySem.W.AlikeAll (d :: r) ∧ PyData.depthAll (d :: r) ≤ 100) ∧ P (PySem.W.minD d r)
  | [.tuple (d :: r)] => (PySem.W.AlikeAll (d :: r) ∧ PyData.depthAll (d :: r) ≤ 100) ∧ P (PySem.W.minD d r)
  | _ => False
def sumD : GL := fun ds P => ∃ (x : D) (ns : List Int), ds = [x] ∧ seqOf x = some (ns.map PyData.int) ∧ P (.int ns.sum)
def allD : GL := fun ds P => ∃ bs : List Bool, ds = [.list (bs.map PyData.bool)] ∧ P (.bool (bs.all id))
def anyD : GL := fun ds P => ∃ bs : List Bool, ds = [.list (bs.map PyData.bool)] ∧ P (.bool (bs.any id))
def tupleD : GL := fun ds P => match ds with
  | [.list a] => P (.tuple a)
  | [.tuple a] => P (.tuple a)
  | _ => False
def listD : GL := fun ds P => match ds with
  | [.list a] => P (.list a)
  | [.tuple a] => P (.list a)
  | _ => False
def sortedD : GL := fun ds P => match ds with
  | [.list a] => (PySem.W.AllAlike a ∧ PySem.W.Sortable a ∧ PyData.depthAll a ≤ 100) ∧ P (.list (a.mergeSort (PySem.W.dataLe false id)))
  | _ => False
section
variable {X : Cx}
theorem Rps.sq {K : PySem.W.Frag} {H : Hp} {Z : List Addr} {x : V} {d : D} {ds : List D} (h : Rp K (off Z H) x d) (e : seqOf d = some ds) : ∃ p xs, x = .ref p ∧ (SqL K H p xs ∨ SqT K H p xs) ∧ Rps K (off Z H) xs ds := by
  cases d <;> simp [seqOf] at e
  · subst e
    obtain ⟨a, xs, rfl, e1, r⟩ := h.list_inv
    exact ⟨a, xs, rfl, .inl (SqL.of (off_some.mp e1).2), r⟩
  · subst e
    obtain ⟨a, xs, rfl, e1, r⟩ := h.tup_inv
    exact ⟨a, xs, rfl, .inr (sqT_off e1), r⟩
theorem rps_one {K : PySem.W.Frag} {H : Hp} {xs : List V} {d : D} (h : Rps K H xs [d]) : ∃ x, xs = [x] ∧ Rp K H x d := by
  cases h with | cons a b => cases b; exact ⟨_, rfl, a⟩
theorem rps_two {K : PySem.W.Frag} {H : Hp} {xs : List V} {d e : D} (h : Rps K H xs [d, e]) : ∃ x y, xs = [x, y] ∧ Rp K H x d ∧ Rp K H y e := by
  cases h with | cons a b => cases b with | cons c d => cases d; exact ⟨_, _, rfl, a, c⟩
theorem cd_len : CallD X (.builtin "len") lenD := by
  intro pins s σ H xs us w O ds P Q I r k rp h q
  unfold lenD at h
  split at h
  · obtain ⟨x, rfl, px⟩ := rps_one rp
    obtain ⟨a, ys, rfl, e1, r1⟩ := px.list_inv
    exact call_len pins s σ H _ us Q I r ⟨_, _, rfl, .inl ⟨ys, SqL.of (off_some.mp e1).2, r1.length.symm⟩, q _ _ _ h (Stp.refl k.r) (.int _)⟩
  · obtain ⟨x, rfl, px⟩ := rps_one rp
    obtain ⟨a, ys, rfl, e1, r1⟩ := px.tup_inv
    exact call_len pins s σ H _ us Q I r ⟨_, _, rfl, .inr ⟨ys, sqT_off e1, r1.length.symm⟩, q _ _ _ h (Stp.refl k.r) (.int _)⟩
  · obtain ⟨x, rfl, px⟩ := rps_one rp
    cases px
    exact call_len pins s σ H _ us Q I r ⟨_, _, rfl, ⟨h.1, rfl⟩, q _ _ _ h.2 (Stp.refl k.r) (.int _)⟩
  · exact h.elim
theorem cd_abs : CallD X (.builtin "abs") absD := by
  intro pins s σ H xs us w O ds P Q I r k rp h q
  unfold absD at h
  split at h
  · obtain ⟨x, rfl, px⟩ := rps_one rp
    cases px
    rename_i i
    refine call_abs pins s σ H _ us Q I r ⟨i, rfl, ?_⟩
    have e : (if i < 0 then -i else i) = ((i.natAbs : Nat) : Int) := by split <;> omega
    rw [e]
    exact q _ _ _ h (Stp.refl k.r) (.int _)
  · exact h.elim
theorem cd_int : CallD X (.type "int") intD := by
  intro pins s σ H xs us w O ds P Q I r k rp h q
  unfold intD at h
  split at h
  · obtain ⟨x, rfl, px⟩ := rps_one rp
    cases px
    exact call_int1 pins s σ H _ us Q I r (.inl ⟨_, rfl, q _ _ _ h (Stp.refl k.r) (.int _)⟩)
  · obtain ⟨x, rfl, px⟩ := rps_one rp
    cases px
    exact call_int1 pins s σ H _ us Q I r (.inr ⟨_, rfl, q _ _ _ h (Stp.refl k.r) (.int _)⟩)
  · exact h.elim
theorem cd_max2 (hc : X.calm = true) : CallD X (.builtin "max") max2D := by
  intro pins s σ H xs us w O ds P Q I r k rp h q
  unfold max2D at h
  split at h
  · obtain ⟨x, y, rfl, px, py⟩ := rps_two rp
    cases px; cases py
    rename_i i j
    refine call_max2 hc pins s σ H _ us Q I r ⟨i, j, rfl, ?_⟩
    have e : (if j > i then j else i) = max i j := by split <;> omega
    rw [e]
    exact q _ _ _ h (Stp.refl k.r) (.int _)
  · exact h.elim
theorem cd_min2 (hc : X.calm = true) : CallD X (.builtin "min") min2D := by
  intro pins s σ H xs us w O ds P Q I r k rp h q
  unfold min2D at h
  split at h
  · obtain ⟨x, y, rfl, px, py⟩ := rps_two rp
    cases px; cases py
    rename_i i j
    refine call_min2 hc pins s σ H _ us Q I r ⟨i, j, rfl, ?_⟩
    have e : (if j < i then j else i) = min i j := by split <;> omega
    rw [e]
    exact q _ _ _ h (Stp.refl k.r) (.int _)
  · exact h.elim
theorem cd_all (hc : X.calm = true) : CallD X (.builtin "all") allD := by
  intro pins s σ H xs us w O ds P Q I r k rp h q
  obtain ⟨bs, rfl, h⟩ := h
  obtain ⟨x, rfl, px⟩ := rps_one rp
  obtain ⟨a, ys, rfl, e1, r1⟩ := px.list_inv
  have := r1.bools
  subst this
  exact cr_all hc pins s σ H _ us Q I r ⟨a, bs, rfl, SqL.of (off_some.mp e1).2, q _ _ _ h (Stp.refl k.r) (.bl _)⟩
theorem cd_any (hc : X.calm = true) : CallD X (.builtin "any") anyD := by
  intro pins s σ H xs us w O ds P Q I r k rp h q
  obtain ⟨bs, rfl, h⟩ := h
  obtain ⟨x, rfl, px⟩ := rps_one rp
  obtain ⟨a, ys, rfl, e1, r1⟩ := px.list_inv
  have := r1.bools
  subst this
  exact cr_any hc pins s σ H _ us Q I r ⟨a, bs, rfl, SqL.of (off_some.mp e1).2, q _ _ _ h (Stp.refl k.r) (.bl _)⟩
theorem cd_sum (hc : X.calm = true) : CallD X (.builtin "sum") sumD := by
  intro pins s σ H xs us w O ds P Q I r k rp h q
  obtain ⟨x, ns, rfl, e, h⟩ := h
  obtain ⟨x, rfl, px⟩ := rps_one rp
  obtain ⟨p, ys, rfl, hs, r1⟩ := Rps.sq px e
  have := r1.ints
  subst this
  rcases hs with hs | hs
  · exact cr_sum hc pins s σ H _ us Q I r ⟨p, ns, rfl, hs, q _ _ _ h (Stp.refl k.r) (.int _)⟩
  · obtain ⟨u, rfl, ru⟩ := vals1 r
    cases ru
    obtain ⟨its, rv, ht, hz⟩ := I.tuple hs
    have hi := rv.ints
    obtain ⟨xs, hx⟩ := hi.allInts.items
    have hn : numsOf its.toArray.toList = ns := by rw [show its.toArray.toList = its from rfl, hi.numsOf]
    have ht : s.heap.IsTuple p its.toArray := ht
    rw [hx] at ht hn
    rw [nums_intItems] at hn
    refine PySem.W.ktm_sumG (I.ok.hd hc) ht fun h' tk t' hk => ?_
    rw [preSum_eq, List.take_of_length_le (by simp), hn]
    exact ⟨.int ns.sum, H, I.kept hk, ⟨_, rfl⟩, q _ _ _ h (Stp.refl k.r) (.int _)⟩
theorem cd_tuple : CallD X (.type "tuple") tupleD := by
  intro pins s σ H xs us w O ds P Q I r k rp h q
  unfold tupleD at h
  split at h
  · obtain ⟨x, rfl, px⟩ := rps_one rp
    obtain ⟨a, ys, rfl, e1, r1⟩ := px.list_inv
    exact call_tuple_of pins s σ H _ us Q I r ⟨a, ys, rfl, .inl ⟨SqL.of (off_some.mp e1).2, fun l hl => q _ _ _ h (Stp.laid k.r hl) (k.tup hl r1)⟩⟩
  · obtain ⟨x, rfl, px⟩ := rps_one rp
    obtain ⟨a, ys, rfl, e1, r1⟩ := px.tup_inv
    exact call_tuple_of pins s σ H _ us Q I r ⟨a, ys, rfl, .inr ⟨sqT_off e1, q _ _ _ h (Stp.refl k.r) px⟩⟩
  · exact h.elim
theorem cd_list : CallD X (.type "list") listD := by
  intro pins s σ H xs us w O ds P Q I r k rp h q
  unfold listD at h
  split at h
  · obtain ⟨x, rfl, px⟩ := rps_one rp
    obtain ⟨a, ys, rfl, e1, r1⟩ := px.list_inv
    exact call_list_of pins s σ H _ us Q I r ⟨a, ys, rfl, .inl (SqL.of (off_some.mp e1).2), fun l hl => q _ _ _ h (Stp.laid k.r hl) (k.lst hl r1)⟩
  · obtain ⟨x, rfl, px⟩ := rps_one rp
    obtain ⟨a, ys, rfl, e1, r1⟩ := px.tup_inv
    exact call_list_of pins s σ H _ us Q I r ⟨a, ys, rfl, .inr (sqT_off e1), fun l hl => q _ _ _ h (Stp.laid k.r hl) (k.lst hl r1)⟩
  · exact h.elim

theorem Vals.get2 {xs : List V} : ∀ {us : List Value} {i : Nat} {u : Value}, Vals xs us → us[i]? = some u → ∃ x, xs[i]? = some x ∧ RelV x u := by
  induction xs with
  | nil => intro us i u h e; cases h; simp at e
  | cons x xs ih =>
    intro us i u h e
    cases h with
    | cons a b =>
      cases i with
      | zero => simp at e; subst e; exact ⟨x, by simp, a⟩
      | succ i => obtain ⟨y, e1, r⟩ := ih b (by simpa using e); exact ⟨y, by simpa using e1, r⟩
/-- an item picked out of a list by the library's rule -/
theorem picked {K : PySem.W.Frag} {Z : List Addr} {H : Hp} {ys : List V} {its : List Value} {ds : List D} {h' : Heap} {i : Nat} {v : Value} {d : D} {as bs : List Addr} {s : Shared}
    (rv : Vals ys its) (r1 : Rps K (off Z H) ys ds) (hr : ReadsAll s.heap its ds as) (hi : its.toArray[i]? = some v) (hd : Reads h' v d bs) (hk : ∀ b o, s.heap.get? b = some o → h'.get? b = some o) :
    ∃ y, RelV y v ∧ Rp K (off Z H) y d := by
  have hi' : its[i]? = some v := by simpa using hi
  obtain ⟨y, e1, ry⟩ := Vals.get2 rv hi'
  obtain ⟨d', e2, rd⟩ := r1.get' e1
  refine ⟨y, ry, ?_⟩
  obtain ⟨bs', r3, _⟩ := PySem.W.readsAll_at hr i v hi'
  have e3 : ds.getD i .none = d' := by rw [List.getD_eq_getElem?_getD, e2]; rfl
  rw [e3] at r3
  have := SeqAt.plain_unique d' d v bs' bs rd.plain (PyProof.Rows.Reads.keeps hk r3) hd
  rw [← this]; exact rd
theorem cd_minL (hc : X.calm = true) (hu : X.A.units + 102 < cLine) : CallD X (.builtin "min") minL := by
  intro pins s σ H xs us w O ds P Q I r k rp h q
  unfold minL at h
  split at h
  · obtain ⟨x, rfl, px⟩ := rps_one rp
    obtain ⟨a, ys, rfl, e1, r1⟩ := px.list_inv
    obtain ⟨⟨ha, hd⟩, h⟩ := h
    obtain ⟨u, rfl, ru⟩ := vals1 r
    cases ru
    obtain ⟨its, rv, hl, hz⟩ := I.list (SqL.of (off_some.mp e1).2)
    obtain ⟨as, hr⟩ := Inv.readsAll I rv r1
    refine PySem.W.min_list_data (I.ok.hd hc) hl.isList hr ha (by omega) fun i v h' tk bs hi hv hk => ?_
    obtain ⟨y, ry, rd⟩ := picked rv r1 hr hi hv hk
    exact ⟨y, H, I.kept hk, ry, q _ _ _ h (Stp.refl k.r) rd⟩
  · obtain ⟨x, rfl, px⟩ := rps_one rp
    obtain ⟨a, ys, rfl, e1, r1⟩ := px.tup_inv
    obtain ⟨⟨ha, hd⟩, h⟩ := h
    obtain ⟨u, rfl, ru⟩ := vals1 r
    cases ru
    obtain ⟨its, rv, hl, hz⟩ := I.tuple (sqT_off e1)
    obtain ⟨as, hr⟩ := Inv.readsAll I rv r1
    refine PySem.W.min_tuple_data (I.ok.hd hc) hl hr ha (by omega) fun i v h' tk bs hi hv hk => ?_
    obtain ⟨y, ry, rd⟩ := picked rv r1 hr hi hv hk
    exact ⟨y, H, I.kept hk, ry, q _ _ _ h (Stp.refl k.r) rd⟩
  · exact h.elim
theorem cd_maxL (hc : X.calm = true) (hu : X.A.units + 102 < cLine) : CallD X (.builtin "max") maxL := by
  intro pins s σ H xs us w O ds P Q I r k rp h q
  unfold maxL at h
  split at h
  · obtain ⟨x, rfl, px⟩ := rps_one rp
    obtain ⟨a, ys, rfl, e1, r1⟩ := px.list_inv
    obtain ⟨⟨ha, hd⟩, h⟩ := h
    obtain ⟨u, rfl, ru⟩ := vals1 r
    cases ru
    obtain ⟨its, rv, hl, hz⟩ := I.list (SqL.of (off_some.mp e1).2)
    obtain ⟨as, hr⟩ := Inv.readsAll I rv r1
    refine PySem.W.max_list_data (I.ok.hd hc) hl.isList hr ha (by omega) fun i v h' tk bs hi hv hk => ?_
    obtain ⟨y, ry, rd⟩ := picked rv r1 hr hi hv hk
    exact ⟨y, H, I.kept hk, ry, q _ _ _ h (Stp.refl k.r) rd⟩
  · obtain ⟨x, rfl, px⟩ := rps_one rp
    obtain ⟨a, ys, rfl, e1, r1⟩ := px.tup_inv
    obtain ⟨⟨ha, hd⟩, h⟩ := h
    obtain ⟨u, rfl, ru⟩ := vals1 r
    cases ru
    obtain ⟨its, rv, hl, hz⟩ := I.tuple (sqT_off e1)
    obtain ⟨as, hr⟩ := Inv.readsAll I rv r1
    refine PySem.W.max_tuple_data (I.ok.hd hc) hl hr ha (by omega) fun i v h' tk bs hi hv hk => ?_
    obtain ⟨y, ry, rd⟩ := picked rv r1 hr hi hv hk
    exact ⟨y, H, I.kept hk, ry, q _ _ _ h (Stp.refl k.r) rd⟩
  · exact h.elim
theorem depth_mem : ∀ {ds : List D} {d : D}, d ∈ ds → d.depth ≤ PyData.depthAll ds
  | x :: xs, d, h => by
    rw [PyData.depthAll]
    rcases List.mem_cons.mp h with rfl | h
    · exact Nat.le_max_left _ _
    · exact Nat.le_trans (depth_mem h) (Nat.le_max_right _ _)
theorem each_rps {K : PySem.W.Frag} {Hq : Hp} : ∀ {ys : List V} {its : List Value} {ds : List D}, Vals ys its → Rps K Hq ys ds → PySem.W.EachIs (fun v d => ∃ y, RelV y v ∧ Rp K Hq y d) its ds
  | [], _, _, .nil, h => by cases h; exact .nil
  | y :: ys, _, _, .cons a b, h => by
    cases h with | cons c d => exact .cons ⟨y, a, c⟩ (each_rps b d)
theorem rps_each {K : PySem.W.Frag} {Hq : Hp} {its : List Value} {ds : List D} (h : PySem.W.EachIs (fun v d => ∃ y, RelV y v ∧ Rp K Hq y d) its ds) : ∃ ys, Vals ys its ∧ Rps K Hq ys ds := by
  induction h with
  | nil => exact ⟨[], .nil, .nil⟩
  | cons a b ih =>
    obtain ⟨y, r, p⟩ := a
    obtain ⟨ys, rv, ps⟩ := ih
    exact ⟨y :: ys, .cons r rv, .cons p ps⟩
theorem cd_sorted (hu : X.A.units + 102 < cLine) : CallD X (.builtin "sorted") sortedD := by
  intro pins s σ H xs us w O ds P Q I r k rp h q
  unfold sortedD at h
  split at h
  · obtain ⟨x, rfl, px⟩ := rps_one rp
    obtain ⟨a, ys, rfl, e1, r1⟩ := px.list_inv
    obtain ⟨⟨hal, hso, hd⟩, h⟩ := h
    obtain ⟨u, rfl, ru⟩ := vals1 r
    cases ru
    obtain ⟨its, rv, hl, hz⟩ := I.list (SqL.of (off_some.mp e1).2)
    obtain ⟨as, hr⟩ := Inv.readsAll I rv r1
    rename_i dl
    have hr' : ReadsAll s.heap its (dl.map id) as := by rw [List.map_id]; exact hr
    refine PySem.W.sorted_data (enc := id) (R := fun v d => ∃ y, RelV y v ∧ Rp X.K (off (w.Z ++ O) H) y d) hl.isList (each_rps rv r1) (PySem.W.readsAll_each id hr') (by rw [List.map_id]; exact hal) (by rw [List.map_id]; exact hso)
      (by rw [← r1.length]; exact hz) (fun b hb => ?_) fun out hlen hout => ?_
    · have := depth_mem hb
      show X.A.units + 2 + b.depth < cLine
      omega
    · obtain ⟨zs, rz, pz⟩ := rps_each hout
      obtain ⟨ep, he'⟩ := PyProof.Rows.sortedAll_at s.heap its out.toArray
      have hn : H (s.heap.objs.size + 1) = none := I.hok.fresh (Nat.le_succ _)
      refine ⟨.ref _, upd H (s.heap.objs.size + 1) (.lst zs), I.laid (t' := s.toks) (fun _ _ => PyProof.Rows.sortedAll_old) (Nat.le_succ _) ⟨?_, _, ep, rz, he'⟩, rfl, q _ _ _ h (Stp.laid k.r hn) (k.lst hn pz)⟩
      rw [pz.length, List.length_mergeSort, ← r1.length]; exact hz
  · exact h.elim
end
end Dw

namespace Dw
open PySem PySem.Spec PyProof.Rows L2

/-! ### isinstance -/
def tyD : D → String
  | .none => "NoneType"
  | .bool _ => "bool"
  | .int _ => "int"
  | .str _ => "str"
  | .list _ => "list"
  | .tuple _ => "tuple"
  | .dict _ => "dict"
def dIsi (g : D → Bool) (fa : DE) : DE := fun ρ P => fa ρ fun x => P (.bool (g x))
section
variable {X : Cx} {a b c e : Expr} {es : List Expr} {fa fb fc : DE} {ta tb tc : DT} {fas : DA} {pos : Pos}
theorem tyX_of {K : PySem.W.Frag} {H : Hp} {x : V} {d : D} (h : Rp K H x d) : TyX K H x (.type (tyD d)) := by
  cases h with
  | non => exact .base .non
  | bl b => exact .base (.bl b)
  | int i => exact .base (.int i)
  | str x => exact .base (.str x)
  | lst e r => exact .base (.lst e)
  | tup e r =>
    rcases e with (e | ⟨o, e⟩) | ⟨o, its, n, e, e2, _⟩
    · exact .base (.tup e)
    · exact .fTuple e
    · exact .kTuple e e2
theorem tyX_mono {K : PySem.W.Frag} {H H' : Hp} {x : V} {d : D} (h : Rp K H x d) (s : Same H H') : TyX K H' x (.type (tyD d)) := tyX_of (h.mono s)
theorem qe_isi {T : String} {g : D → Bool} {p p2 : Pos} {tn : Str} (hT : ∀ d : D, kitB (tyD d) T = some (g d)) (hg : Gl X "isinstance") (hm : X.mg "isinstance" = none) (hg2 : Gl X tn) (hm2 : X.mg tn = none) (hv2 : bootBuiltins tn = some (.type T))
    (hn2 : tn ≠ "__name__") (hdb2 : (tn == ("__debug__" : Str)) = false) (ha : QE X a fa)
    (hs1 : starEach [a, .Name tn p2] X.env = (false, eval a X.env) :: starEach [.Name tn p2] X.env := by rfl) (hs2 : starEach [.Name tn p2] X.env = (false, eval (.Name tn p2) X.env) :: starEach [] X.env := by rfl) (hpl : (backTo pos (starEach [.Name tn p2] X.env)).any (·.1) = false := by rfl) :
    QE X (.Call (.Name "isinstance" p) [a, .Name tn p2] [] pos) (dIsi g fa) :=
  ⟨pe_imp (pe_callB call_isi hg hm (by decide +kernel) (pa_cons ha.pe (pa_cons (pe_bltn (v := .ty T) hg2 hm2 hv2 rfl hn2 hdb2) pa_nil hs2) hs1) (by decide) (by decide) hs1 hpl) fun σ H Q ⟨w, H0, kp, O, ρ, P, rep, h, q⟩ => rep.go h fun d v H1 h1 s1 rep1 r1 =>
    ⟨v, .ty T, .type (tyD d), .type T, g d, rfl, .ty T, tyX_mono r1 off_le, kit_ty (hT d), q _ _ _ h1 s1 (.bl _)⟩⟩
theorem kb_NoneType_int : kitB "NoneType" "int" = some false := by decide +kernel
theorem kb_bool_int : kitB "bool" "int" = some true := by decide +kernel
theorem kb_int_int : kitB "int" "int" = some true := by decide +kernel
theorem kb_str_int : kitB "str" "int" = some false := by decide +kernel
theorem kb_list_int : kitB "list" "int" = some false := by decide +kernel
theorem kb_tuple_int : kitB "tuple" "int" = some false := by decide +kernel
theorem kb_dict_int : kitB "dict" "int" = some false := by decide +kernel
theorem kT_int : ∀ d : D, kitB (tyD d) "int" = some (PyData.isInt d)
  | .none => kb_NoneType_int
  | .bool b => kb_bool_int
  | .int b => kb_int_int
  | .str b => kb_str_int
  | .list b => kb_list_int
  | .tuple b => kb_tuple_int
  | .dict b => kb_dict_int
theorem kb_NoneType_bool : kitB "NoneType" "bool" = some false := by decide +kernel
theorem kb_bool_bool : kitB "bool" "bool" = some true := by decide +kernel
theorem kb_int_bool : kitB "int" "bool" = some false := by decide +kernel
theorem kb_str_bool : kitB "str" "bool" = some false := by decide +kernel
theorem kb_list_bool : kitB "list" "bool" = some false := by decide +kernel
theorem kb_tuple_bool : kitB "tuple" "bool" = some false := by decide +kernel
theorem kb_dict_bool : kitB "dict" "bool" = some false := by decide +kernel
theorem kT_bool : ∀ d : D, kitB (tyD d) "bool" = some (PyData.isBool d)
  | .none => kb_NoneType_bool
  | .bool b => kb_bool_bool
  | .int b => kb_int_bool
  | .str b => kb_str_bool
  | .list b => kb_list_bool
  | .tuple b => kb_tuple_bool
  | .dict b => kb_dict_bool
theorem kb_NoneType_str : kitB "NoneType" "str" = some false := by decide +kernel
theorem kb_bool_str : kitB "bool" "str" = some false := by decide +kernel
theorem kb_int_str : kitB "int" "str" = some false := by decide +kernel
theorem kb_str_str : kitB "str" "str" = some true := by decide +kernel
theorem kb_list_str : kitB "list" "str" = some false := by decide +kernel
theorem kb_tuple_str : kitB "tuple" "str" = some false := by decide +kernel
theorem kb_dict_str : kitB "dict" "str" = some false := by decide +kernel
theorem kT_str : ∀ d : D, kitB (tyD d) "str" = some (PyData.isStr d)
  | .none => kb_NoneType_str
  | .bool b => kb_bool_str
  | .int b => kb_int_str
  | .str b => kb_str_str
  | .list b => kb_list_str
  | .tuple b => kb_tuple_str
  | .dict b => kb_dict_str
theorem kb_NoneType_list : kitB "NoneType" "list" = some false := by decide +kernel
theorem kb_bool_list : kitB "bool" "list" = some false := by decide +kernel
theorem kb_int_list : kitB "int" "list" = some false := by decide +kernel
theorem kb_str_list : kitB "str" "list" = some false := by decide +kernel
theorem kb_list_list : kitB "list" "list" = some true := by decide +kernel
theorem kb_tuple_list : kitB "tuple" "list" = some false := by decide +kernel
theorem kb_dict_list : kitB "dict" "list" = some false := by decide +kernel
theorem kT_list : ∀ d : D, kitB (tyD d) "list" = some (PyData.isList d)
  | .none => kb_NoneType_list
  | .bool b => kb_bool_list
  | .int b => kb_int_list
  | .str b => kb_str_list
  | .list b => kb_list_list
  | .tuple b => kb_tuple_list
  | .dict b => kb_dict_list
theorem kb_NoneType_tuple : kitB "NoneType" "tuple" = some false := by decide +kernel
theorem kb_bool_tuple : kitB "bool" "tuple" = some false := by decide +kernel
theorem kb_int_tuple : kitB "int" "tuple" = some false := by decide +kernel
theorem kb_str_tuple : kitB "str" "tuple" = some false := by decide +kernel
theorem kb_list_tuple : kitB "list" "tuple" = some false := by decide +kernel
theorem kb_tuple_tuple : kitB "tuple" "tuple" = some true := by decide +kernel
theorem kb_dict_tuple : kitB "dict" "tuple" = some false := by decide +kernel
theorem kT_tuple : ∀ d : D, kitB (tyD d) "tuple" = some (PyData.isTuple d)
  | .none => kb_NoneType_tuple
  | .bool b => kb_bool_tuple
  | .int b => kb_int_tuple
  | .str b => kb_str_tuple
  | .list b => kb_list_tuple
  | .tuple b => kb_tuple_tuple
  | .dict b => kb_dict_tuple

/-! ### subscripts, slices -/
def ixD : G2 := fun x y P => match x, y with
  | .list ds, .int i => ∃ d, atI ds i = some d ∧ P d
  | .tuple ds, .int i => ∃ d, atI ds i = some d ∧ P d
  | _, _ => False
theorem Rps.atI {K : PySem.W.Frag} {H : Hp} {vs : List V} {ds : List D} {i : Int} {d : D} (h : Rps K H vs ds) (e : L2.atI ds i = some d) : ∃ v, L2.atI vs i = some v ∧ Rp K H v d := by
  unfold L2.atI at e ⊢
  rw [h.length]
  cases q : ixN ds.length i with
  | none => rw [q] at e; simp at e
  | some j =>
    rw [q] at e
    simp only [Option.bind_some] at e ⊢
    exact h.get e
theorem qe_ix (ha : QE X a fa) (hb : QE X b fb) (hs : PlainIx b) : QE X (.Subscript a b pos) (dOp ixD fa fb) := by
  refine ⟨⟨fun pins s σ H Q I h => ?_⟩⟩
  obtain ⟨w, H0, kp, O, ρ, P, rep, h, q⟩ := h
  refine Subscript_ (bin2 ha hb I rep h fun v u s2 x y H2 dx dy I2 rx ry st rep2 px py r => ?_)
  unfold ixD at r
  split at r
  · obtain ⟨d, e, p⟩ := r
    obtain ⟨l, xs, rfl, e1, r1⟩ := px.list_inv
    cases py
    obtain ⟨z, e2, rz⟩ := r1.atI e
    exact ix_list a b pins s2 σ H2 _ _ v u Q I2 rx ry ⟨l, xs, _, z, rfl, rfl, SqL.of (off_some.mp e1).2, e2, q _ _ _ p st rz⟩ (hs _ _)
  · obtain ⟨d, e, p⟩ := r
    obtain ⟨l, xs, rfl, e1, r1⟩ := px.tup_inv
    cases py
    obtain ⟨z, e2, rz⟩ := r1.atI e
    exact ix_tup a b pins s2 σ H2 _ _ v u Q I2 rx ry ⟨l, xs, _, z, rfl, rfl, sqT_off e1, e2, q _ _ _ p st rz⟩ (hs _ _)
  · exact r.elim
/-- a part of a slice -/
abbrev DO := Env → (Option Int → Prop) → Prop
def QRO (K : PySem.W.Frag) (f : DO) : TO := fun σ H Q => ∃ (w : Wd) (H0 : Hp) (kp : List (V × D)) (O : List Addr) (ρ : Env) (P : Option Int → Prop), Rep K w H0 kp O H σ ρ ∧ f ρ P ∧
  ∀ o H', P o → Stp w H H' → Q o H'
structure QO (X : Cx) (e : Option Expr) (f : DO) : Prop where
  po : PO X e (QRO X.K f)
def dNo : DO := fun _ P => P none
def dPart (f : DE) : DO := fun ρ P => f ρ fun x => ∃ i, x = .int i ∧ P (some i)
theorem po_imp {e : Option Expr} {t t' : TO} (h : PO X e t) (i : ∀ σ H Q, t' σ H Q → t σ H Q) : PO X e t' := ⟨fun pins s σ H Q I q => h.run pins s σ H Q I (i _ _ _ q)⟩
theorem qo_none : QO X none dNo := ⟨po_imp po_none fun σ H Q ⟨w, H0, kp, O, ρ, P, rep, h, q⟩ => q _ _ h (Stp.refl rep.r)⟩
theorem qo_some (ha : QE X a fa) : QO X (some a) (dPart fa) := ⟨po_imp (po_some ha.pe) fun σ H Q ⟨w, H0, kp, O, ρ, P, rep, h, q⟩ => rep.go h fun d v H1 ⟨i, e, p⟩ s1 rep1 r1 => by
  subst e; exact ⟨i, r1.int_inv, q _ _ p s1⟩⟩
def cutD (ds : List D) (lo hi : Option Int) : List D := (ds.drop (HT.sIx ds.length 0 lo)).take (HT.sIx ds.length ds.length hi - HT.sIx ds.length 0 lo)
def slD (x : D) (lo hi : Option Int) (P : D → Prop) : Prop := match x with
  | .list ds => P (.list (cutD ds lo hi))
  | .tuple ds => P (.tuple (cutD ds lo hi))
  | _ => False
def dSl (fa : DE) (fl fh : DO) : DE := fun ρ P => fa ρ fun x => fl ρ fun lo => fh ρ fun hi => slD x lo hi P
theorem Rps.cut {K : PySem.W.Frag} {H : Hp} {vs : List V} {ds : List D} (h : Rps K H vs ds) (lo hi : Option Int) : Rps K H (cutV vs lo hi) (cutD ds lo hi) := by
  unfold cutV cutD
  rw [h.length]
  exact (h.drop _).take _
theorem cut_whole {ds : List D} {lo hi : Option Int} (h : HT.sIx ds.length 0 lo = 0 ∧ HT.sIx ds.length ds.length hi = ds.length) : cutD ds lo hi = ds := by
  unfold cutD
  rw [h.1, h.2]; simp
theorem Rep.goO {K : PySem.W.Frag} {w : Wd} {H0 H : Hp} {kp : List (V × D)} {O : List Addr} {σ : L2.St} {ρ : Env} {f : DO} {P : Option Int → Prop} {Q : Option Int → Hp → Prop} (rep : Rep K w H0 kp O H σ ρ) (h : f ρ P)
    (k : ∀ o H', P o → Stp w H H' → Rep K w H0 kp O H' σ ρ → Q o H') : QRO K f σ H Q :=
  ⟨w, H0, kp, O, ρ, P, rep, h, fun d H' p s => k d H' p s (rep.stp s)⟩
theorem qe_slice {lo hi : Option Expr} {fl fh : DO} {p2 : Pos} (ha : QE X a fa) (hl : QO X lo fl) (hh : QO X hi fh) : QE X (.Subscript a (.Slice lo hi none p2) pos) (dSl fa fl fh) :=
  ⟨pe_imp (pe_slice (sl_list.or sl_tupA) ha.pe hl.po hh.po) fun σ H Q ⟨w, H0, kp, O, ρ, P, rep, h, q⟩ => rep.go h fun x v H1 h1 s1 rep1 r1 => rep1.goO h1 fun lo H2 h2 s2 rep2 => rep2.goO h2 fun hi H3 h3 s3 rep3 => by
    have r3 := r1.mono ((rep1.off s2).trans (rep2.off s3))
    have st := (s1.trans s2).trans s3
    unfold slD at h3
    split at h3
    · obtain ⟨l, xs, rfl, e1, r⟩ := r3.list_inv
      exact .inl ⟨l, xs, rfl, SqL.of (off_some.mp e1).2, fun p hp => q _ _ _ h3 (st.trans (Stp.laid rep3.r hp)) (rep3.wok.lst hp (r.cut _ _))⟩
    · obtain ⟨l, xs, rfl, e1, r⟩ := r3.tup_inv
      refine .inr ⟨l, xs, rfl, sqT_off e1, fun hw => ?_, fun _ p hp => q _ _ _ h3 (st.trans (Stp.laid rep3.r hp)) (rep3.wok.tup hp (r.cut _ _))⟩
      rw [r.length] at hw
      rw [cut_whole hw] at h3
      exact q _ _ _ h3 st r3
    · exact h3.elim⟩
end

/-! ### what a loop walks -/
def ItIs (K : PySem.W.Frag) (J : It) (keep : List (V × D)) (ds : List D) : Prop :=
  ∀ (w : Wd) (O : List Addr) (H : Hp), Wok w O H → (∀ p ∈ keep, Rp K (off (w.Z ++ O) H) p.1 p.2) →
    (∀ (i : Nat) (d : D), ds[i]? = some d → J.go i H ∧ ∀ x H', J.yld i H x H' → Stp w H H' ∧ Rp K (off (w.Z ++ O) H') x d) ∧ J.stop ds.length H
abbrev DI := Env → (List D → Prop) → Prop
def QRI (K : PySem.W.Frag) (f : DI) : TI := fun σ H R => ∃ (w : Wd) (H0 : Hp) (kp : List (V × D)) (O : List Addr) (ρ : Env) (P : List D → Prop), Rep K w H0 kp O H σ ρ ∧ f ρ P ∧
  ∀ ds J keep H', P ds → Stp w H H' → (∀ p ∈ keep, Rp K (off (w.Z ++ O) H') p.1 p.2) → ItIs K J keep ds → R J H'
structure QI (X : Cx) (tg iter : Expr) (f : DI) : Prop where
  pi : PI X tg iter (QRI X.K f)
theorem pi_imp {X : Cx} {tg iter : Expr} {t t' : TI} (h : PI X tg iter t) (i : ∀ σ H R, t' σ H R → t σ H R) : PI X tg iter t' := ⟨fun pins s σ H R I q => h.run pins s σ H R I (i _ _ _ q)⟩
def dSeqL (fa : DE) : DI := fun ρ P => fa ρ fun x => match x with | .list ds => P ds | _ => False
def dSeqT (fa : DE) : DI := fun ρ P => fa ρ fun x => match x with | .tuple ds => P ds | _ => False
def rngD (a b : Int) : List D := (List.range (b - a).toNat).map fun i => .int (a + (i : Nat))
def dRng1 (fa : DE) : DI := fun ρ P => fa ρ fun x => match x with | .int n => (-(2 ^ 62) ≤ n ∧ n < 2 ^ 62) ∧ P (rngD 0 n) | _ => False
def dRng2 (fa fb : DE) : DI := fun ρ P => fa ρ fun x => fb ρ fun y => match x, y with | .int m, .int n => (-(2 ^ 62) ≤ m ∧ m < 2 ^ 62 ∧ -(2 ^ 62) ≤ n ∧ n < 2 ^ 62) ∧ P (rngD m n) | _, _ => False
theorem rngD_length (a b : Int) : (rngD a b).length = (b - a).toNat := by simp [rngD]
section
variable {X : Cx} {tg a b e : Expr} {fa fb : DE} {pos : Pos}
theorem isL {K : PySem.W.Frag} (a : Addr) (ds : List D) : ItIs K (Itl K a) [(.ref a, .list ds)] ds := fun w O H k hk => by
  have r := hk _ (List.mem_singleton.mpr rfl)
  obtain ⟨a', xs, e, e1, rs⟩ := r.list_inv
  cases e
  have hs : SqL K H a xs := SqL.of (off_some.mp e1).2
  refine ⟨fun i d hd => ?_, ⟨xs, hs, by rw [rs.length]; exact Nat.le_refl _⟩⟩
  obtain ⟨v, e2, r2⟩ := rs.get hd
  refine ⟨⟨xs, v, hs, e2⟩, fun x H' y => ?_⟩
  obtain ⟨rfl, y⟩ := y
  have := y xs hs
  rw [e2] at this
  cases this
  exact ⟨Stp.refl k.r, r2⟩
theorem isT {K : PySem.W.Frag} (a : Addr) (ds : List D) : ItIs K (Itt K a) [(.ref a, .tuple ds)] ds := fun w O H k hk => by
  have r := hk _ (List.mem_singleton.mpr rfl)
  obtain ⟨a', xs, e, e1, rs⟩ := r.tup_inv
  cases e
  have hs : SqT K H a xs := sqT_off e1
  refine ⟨fun i d hd => ?_, ⟨xs, hs, by rw [rs.length]; exact Nat.le_refl _⟩⟩
  obtain ⟨v, e2, r2⟩ := rs.get hd
  refine ⟨⟨xs, v, hs, e2⟩, fun x H' y => ?_⟩
  obtain ⟨rfl, y⟩ := y
  have := y xs hs
  rw [e2] at this
  cases this
  exact ⟨Stp.refl k.r, r2⟩
theorem isR {K : PySem.W.Frag} (lo hi : Int) : ItIs K (Itr lo (hi - lo).toNat) [] (rngD lo hi) := fun w O H k _ => by
  refine ⟨fun i d hd => ?_, by rw [rngD_length]; exact Nat.le_refl _⟩
  have hi' : i < (hi - lo).toNat := by
    have := (List.getElem?_eq_some_iff.mp hd).1
    rwa [rngD_length] at this
  refine ⟨hi', fun x H' y => ?_⟩
  obtain ⟨rfl, rfl⟩ := y
  refine ⟨Stp.refl k.r, ?_⟩
  have e : d = .int (lo + (i : Nat)) := by
    unfold rngD at hd
    rw [List.getElem?_map, List.getElem?_range hi'] at hd
    exact (Option.some.inj hd).symm
  subst e
  exact .int _
theorem qi_list (ha : QE X a fa) : QI X tg a (dSeqL fa) :=
  ⟨pi_imp (pi_list ha.pe) fun σ H R ⟨w, H0, kp, O, ρ, P, rep, h, q⟩ => rep.go h fun d v H1 h1 s1 rep1 r1 => by
    cases d <;> simp only at h1
    obtain ⟨l, xs, rfl, e1, r⟩ := r1.list_inv
    exact ⟨l, rfl, ⟨xs, SqL.of (off_some.mp e1).2⟩, q _ _ _ _ h1 s1 (fun p hp => by rw [List.mem_singleton.mp hp]; exact r1) (isL l _)⟩⟩
theorem qi_tup (ha : QE X a fa) : QI X tg a (dSeqT fa) :=
  ⟨pi_imp (pi_tup ha.pe) fun σ H R ⟨w, H0, kp, O, ρ, P, rep, h, q⟩ => rep.go h fun d v H1 h1 s1 rep1 r1 => by
    cases d <;> simp only at h1
    obtain ⟨l, xs, rfl, e1, r⟩ := r1.tup_inv
    exact ⟨l, rfl, ⟨xs, sqT_off e1⟩, q _ _ _ _ h1 s1 (fun p hp => by rw [List.mem_singleton.mp hp]; exact r1) (isT l _)⟩⟩
theorem qi_rng1 {p : Pos} (hg : Gl X "range") (hm : X.mg "range" = none) (ha : QE X a fa) (hs : starEach [a] X.env = [(false, eval a X.env)] := by rfl) : QI X tg (.Call (.Name "range" p) [a] [] pos) (dRng1 fa) :=
  ⟨pi_imp (pi_range1 hg hm (pa_cons ha.pe pa_nil hs) hs) fun σ H R ⟨w, H0, kp, O, ρ, P, rep, h, q⟩ => rep.go h fun d v H1 h1 s1 rep1 r1 => by
    cases d <;> simp only at h1
    cases r1
    rename_i i
    have e := isR (K := X.K) 0 i
    rw [Int.sub_zero] at e
    exact ⟨i, rfl, h1.1.1, h1.1.2, q _ _ [] _ h1.2 s1 (fun p hp => by cases hp) e⟩⟩
theorem qi_rng2 {p : Pos} (hg : Gl X "range") (hm : X.mg "range" = none) (ha : QE X a fa) (hb : QE X b fb) (hs : starEach [a, b] X.env = [(false, eval a X.env), (false, eval b X.env)] := by rfl) (hs2 : starEach [b] X.env = [(false, eval b X.env)] := by rfl) :
    QI X tg (.Call (.Name "range" p) [a, b] [] pos) (dRng2 fa fb) :=
  ⟨pi_imp (pi_range2 hg hm (pa_cons ha.pe (pa_cons hb.pe pa_nil hs2) (by rw [hs, hs2])) hs hs2) fun σ H R ⟨w, H0, kp, O, ρ, P, rep, h, q⟩ => rep.go h fun d v H1 h1 s1 rep1 r1 => rep1.go h1 fun d2 v2 H2 h2 s2 rep2 r2 => by
    cases d <;> cases d2 <;> simp only at h2
    cases r1; cases r2
    exact ⟨_, _, rfl, h2.1, q _ _ [] _ h2.2 (s1.trans s2) (fun p hp => by cases hp) (isR _ _)⟩⟩
end
end Dw

namespace Dw
open PySem PySem.Spec PyProof.Rows L2

/-! ### stores to names -/
section
variable {K : PySem.W.Frag} {w : Wd} {H0 H H' : Hp} {kp : List (V × D)} {O : List Addr} {σ : L2.St} {ρ : Env}
theorem Rep.setD (rep : Rep K w H0 kp O H σ ρ) (i : Nat) {v : V} {x : D} (r : Rp K (Dw.off (w.Z ++ O) H) v x) : Rep K w H0 kp O H (σ.set i (some v)) (ρ.set i (some (.d x))) := by
  refine ⟨rep.r, rep.s0, rep.o0, rep.oS, rep.kp, by simp [rep.len], fun j e h => ?_, fun j k ds es u hne h1 h2 h3 => ?_⟩
  · by_cases hj : i = j
    · subst hj
      by_cases hi : i < ρ.length
      · rw [List.getElem?_set_self hi] at h
        cases h
        exact ⟨v, List.getElem?_set_self (by rw [← rep.len]; exact hi), r⟩
      · rw [List.getElem?_eq_none (by simpa using hi)] at h; cases h
    · rw [List.getElem?_set_ne hj] at h
      obtain ⟨u, e1, e2⟩ := rep.var j e h
      exact ⟨u, by rw [List.getElem?_set_ne hj]; exact e1, e2⟩
  · have a : ∀ j (ds : List D), (ρ.set i (some (.d x)))[j]? = some (some (.own ds)) → i ≠ j ∧ ρ[j]? = some (some (.own ds)) := fun j ds h => by
      by_cases hj : i = j
      · subst hj
        by_cases hi : i < ρ.length
        · rw [List.getElem?_set_self hi] at h; cases h
        · rw [List.getElem?_eq_none (by simpa using hi)] at h; cases h
      · rw [List.getElem?_set_ne hj] at h; exact ⟨hj, h⟩
    obtain ⟨n1, e1⟩ := a j ds h1
    obtain ⟨n2, e2⟩ := a k es h2
    rw [List.getElem?_set_ne n1] at h3
    rw [List.getElem?_set_ne n2]
    exact rep.apart j k ds es u hne e1 e2 h3
theorem Rep.weak (rep : Rep K w H0 kp O H σ ρ) {σ' : L2.St} {ρ' : Env} (hl : ρ'.length = σ'.length) (h : ∀ (i : Nat) (e : Ent), ρ'[i]? = some (some e) → ρ[i]? = some (some e) ∧ σ'[i]? = σ[i]?) : Rep K w H0 kp O H σ' ρ' :=
  ⟨rep.r, rep.s0, rep.o0, rep.oS, rep.kp, hl, fun i e q => let ⟨q1, q2⟩ := h i e q; let ⟨v, e1, e2⟩ := rep.var i e q1; ⟨v, by rw [q2]; exact e1, e2⟩,
    fun i j ds es v hne q1 q2 q3 => by
      obtain ⟨a1, a2⟩ := h i _ q1
      obtain ⟨b1, b2⟩ := h j _ q2
      rw [a2] at q3
      rw [b2]
      exact rep.apart i j ds es v hne a1 b1 q3⟩
def wipeE (ρ : Env) : List Nat → Env
  | [] => ρ
  | v :: vs => (wipeE ρ vs).set v none
theorem wipeE_length (ρ : Env) : ∀ vs : List Nat, (wipeE ρ vs).length = ρ.length
  | [] => rfl
  | v :: vs => by unfold wipeE; rw [List.length_set, wipeE_length ρ vs]
theorem wipeE_some {ρ : Env} {i : Nat} {x : Ent} : ∀ {vs : List Nat}, (wipeE ρ vs)[i]? = some (some x) → ρ[i]? = some (some x) ∧ i ∉ vs
  | [], h => ⟨h, by simp⟩
  | v :: vs, h => by
    unfold wipeE at h
    by_cases hi : v = i
    · subst hi
      by_cases hv : v < (wipeE ρ vs).length
      · rw [List.getElem?_set_self hv] at h; cases h
      · rw [List.getElem?_eq_none (by simpa using hv)] at h; cases h
    · rw [List.getElem?_set_ne hi] at h
      obtain ⟨h1, h2⟩ := wipeE_some h
      exact ⟨h1, by simp only [List.mem_cons, not_or]; exact ⟨fun e => hi e.symm, h2⟩⟩
theorem Rep.wipe (rep : Rep K w H0 kp O H σ ρ) (vs : List Nat) : Rep K w H0 kp O H (L2.wipe σ vs) (wipeE ρ vs) :=
  rep.weak (by rw [wipeE_length, wipe_length, rep.len]) fun i e h => by
    obtain ⟨h1, h2⟩ := wipeE_some h
    exact ⟨h1, wipe_out h2⟩
theorem wipe_ext {σ σ' : L2.St} {vs : List Nat} (hl : σ'.length = σ.length) (h : ∀ i, i ∉ vs → σ'[i]? = σ[i]?) : L2.wipe σ' vs = L2.wipe σ vs := by
  apply List.ext_getElem?
  intro i
  by_cases hi : i ∈ vs
  · have a : ∀ (τ : L2.St), (L2.wipe τ vs)[i]? = if i < τ.length then some none else none := by
      intro τ
      clear h hl
      induction vs with
      | nil => simp at hi
      | cons v vs ih =>
        unfold L2.wipe
        by_cases e : v = i
        · subst e
          by_cases q : v < τ.length
          · rw [List.getElem?_set_self (by rw [wipe_length]; exact q), if_pos q]
          · rw [List.getElem?_eq_none (by rw [List.length_set, wipe_length]; omega), if_neg q]
        · rw [List.getElem?_set_ne e]
          exact ih (by rcases List.mem_cons.mp hi with r | r; exact absurd r.symm e; exact r)
    rw [a, a, hl]
  · rw [wipe_out hi, wipe_out hi, h i hi]
theorem Rep.keep (rep : Rep K w H0 kp O H σ ρ) {keep : List (V × D)} (h : ∀ p ∈ keep, Rp K (Dw.off (w.Z ++ O) H) p.1 p.2) : Rep K w H0 (keep ++ kp) O H σ ρ :=
  ⟨rep.r, rep.s0, rep.o0, rep.oS, fun p hp => (List.mem_append.mp hp).elim (h p) (rep.kp p), rep.len, rep.var, rep.apart⟩
end

/-! ### targets -/
abbrev DG := D → Env → (Env → Prop) → Prop
abbrev DGs := List D → Env → (Env → Prop) → Prop
def QRG (K : PySem.W.Frag) (g : DG) (is : List Nat) : TG := fun v σ H Q => ∃ (w : Wd) (H0 : Hp) (kp : List (V × D)) (O : List Addr) (ρ : Env) (d : D) (P : Env → Prop), Rep K w H0 kp O H σ ρ ∧ Rp K (off (w.Z ++ O) H) v d ∧ g d ρ P ∧
  ∀ ρ' σ' H', P ρ' → Stp w H H' → Rep K w H0 kp O H' σ' ρ' → (∀ i, i ∉ is → σ'[i]? = σ[i]?) → σ'.length = σ.length → Q σ' H'
def QRGs (K : PySem.W.Frag) (g : DGs) (is : List Nat) : TGs := fun vs σ H Q => ∃ (w : Wd) (H0 : Hp) (kp : List (V × D)) (O : List Addr) (ρ : Env) (ds : List D) (P : Env → Prop), Rep K w H0 kp O H σ ρ ∧ Rps K (off (w.Z ++ O) H) vs ds ∧ g ds ρ P ∧
  ∀ ρ' σ' H', P ρ' → Stp w H H' → Rep K w H0 kp O H' σ' ρ' → (∀ i, i ∉ is → σ'[i]? = σ[i]?) → σ'.length = σ.length → Q σ' H'
structure QG (X : Cx) (tg : Expr) (g : DG) (is : List Nat) : Prop where
  pg : PG X tg (QRG X.K g is)
structure QGs (X : Cx) (tgs : List Expr) (g : DGs) (is : List Nat) : Prop where
  pgs : PGs X tgs (QRGs X.K g is)
def gN (i : Nat) : DG := fun d ρ P => P (ρ.set i (some (.d d)))
def gNilD : DGs := fun ds ρ P => ds = [] ∧ P ρ
def gConsD (g : DG) (h : DGs) : DGs := fun ds ρ P => match ds with
  | [] => False
  | d :: r => g d ρ fun ρ' => h r ρ' P
def gTupD (n : Nat) (h : DGs) : DG := fun d ρ P => match d with
  | .tuple ds => ds.length = n ∧ h ds ρ P
  | _ => False
theorem pg_imp {X : Cx} {tg : Expr} {t t' : TG} (h : PG X tg t) (i : ∀ v σ H Q, t' v σ H Q → t v σ H Q) : PG X tg t' := ⟨fun pins s σ H v u Q I r q => h.run pins s σ H v u Q I r (i _ _ _ _ q)⟩
theorem pgs_imp {X : Cx} {tg : List Expr} {t t' : TGs} (h : PGs X tg t) (i : ∀ v σ H Q, t' v σ H Q → t v σ H Q) : PGs X tg t' := ⟨fun pins s σ H v u Q I r q => h.run pins s σ H v u Q I r (i _ _ _ _ q)⟩
section
variable {X : Cx} {pos : Pos}
theorem qg_name {i : Nat} {x : Str} (hN : X.N.Nodup) (hi : X.N[i]? = some x) (hx : Loc X.env.scope x) (hf : X.fn x = true ∨ X.env.scope.names.lookup x = some .local := by first | exact .inl rfl | exact .inr rfl | assumption) : QG X (.Name x pos) (gN i) [i] :=
  ⟨pg_imp (pg_name hN hi hx hf) fun v σ H Q ⟨w, H0, kp, O, ρ, d, P, rep, rd, h, q⟩ =>
    q _ _ _ h (Stp.refl rep.r) (rep.setD i rd) (fun j hj => List.getElem?_set_ne (fun e => hj (by simp [e]))) (by simp)⟩
theorem qgs_nil : QGs X [] gNilD [] :=
  ⟨pgs_imp pgs_nil fun v σ H Q ⟨w, H0, kp, O, ρ, d, P, rep, rd, ⟨e, h⟩, q⟩ => by
    subst e; cases rd; exact ⟨rfl, q _ _ _ h (Stp.refl rep.r) rep (fun _ _ => rfl) rfl⟩⟩
theorem qgs_cons {e : Expr} {es : List Expr} {g : DG} {h : DGs} {is js : List Nat} (h1 : QG X e g is) (h2 : QGs X es h js)
    (hs : (assignEach (e :: es) X.env).map (·.2) = assign e X.env :: (assignEach es X.env).map (·.2) := by rfl) : QGs X (e :: es) (gConsD g h) (is ++ js) :=
  ⟨pgs_imp (pgs_cons h1.pg h2.pgs hs) fun v σ H Q ⟨w, H0, kp, O, ρ, ds, P, rep, rd, hh, q⟩ => by
    cases rd with
    | nil => exact hh.elim
    | cons a b =>
      refine ⟨_, _, rfl, w, H0, kp, O, ρ, _, _, rep, a, hh, fun ρ1 σ1 H1 p1 s1 rep1 f1 l1 => ?_⟩
      exact ⟨w, H0, kp, O, ρ1, _, P, rep1, b.mono (rep.off s1), p1, fun ρ2 σ2 H2 p2 s2 rep2 f2 l2 => q _ _ _ p2 (s1.trans s2) rep2 (fun i hi => by
        rw [f2 i fun z => hi (List.mem_append_right _ z), f1 i fun z => hi (List.mem_append_left _ z)]) (l2.trans l1)⟩⟩
theorem qg_tup {es : List Expr} {k : Nat} {g : DGs} {is : List Nat} {n : Nat} (hc : X.calm = true) (h : QGs X es g is)
    (hn : (assignEach es X.env).length = n := by rfl) (hst : (assignEach es X.env).findIdx? (·.1) = none := by rfl) : QG X (.Tuple es k pos) (gTupD n g) is :=
  ⟨pg_imp (pg_tup hc h.pgs hn hst) fun v σ H Q ⟨w, H0, kp, O, ρ, d, P, rep, rd, hh, q⟩ => by
    cases d <;> simp only [gTupD] at hh
    obtain ⟨a, xs, rfl, e1, r1⟩ := rd.tup_inv
    exact ⟨a, xs, rfl, sqT_off e1, by rw [r1.length]; exact hh.1, w, H0, kp, O, ρ, _, P, rep, r1, hh.2, q⟩⟩
end

/-! ### list comprehensions -/
/-- a clause's tests -/
structure QTs (X : Cx) (ifs : List Expr) (t : DT) : Prop where
  pts : PTs X ifs (QRT X.K t)
def dYes : DT := fun _ P => P true
theorem pts_imp {X : Cx} {ifs : List Expr} {t t' : TT} (h : PTs X ifs t) (i : ∀ σ H Q, t' σ H Q → t σ H Q) : PTs X ifs t' := ⟨fun pins s σ H Q I q => h.run pins s σ H Q I (i _ _ _ q)⟩
theorem qts_nil {X : Cx} : QTs X [] dYes := ⟨pts_imp pts_nil fun σ H Q ⟨w, H0, kp, O, ρ, P, rep, h, q⟩ => q _ _ h (Stp.refl rep.r)⟩
theorem qts_one {X : Cx} {c : Expr} {t : DT} (h : QT X c t) : QTs X [c] t := ⟨pts_one h.pt⟩
def wComp (g : DG) (tt : DT) (te : DE) (ρ : Env) : List D → List D → (List D → Prop) → Prop
  | [], acc, P => P acc
  | d :: ds, acc, P => g d ρ fun ρ2 => tt ρ2 fun b => if b = true then te ρ2 fun y => acc.length < sizeLine ∧ wComp g tt te ρ ds (acc ++ [y]) P else wComp g tt te ρ ds acc P
def dComp (it : DI) (g : DG) (tt : DT) (te : DE) (own : List Nat) : DE := fun ρ P => it ρ fun ds => wComp g tt te (wipeE ρ own) ds [] fun out => P (.list out)
section
variable {X : Cx} {elt tg iter : Expr} {ifs : List Expr} {scope : Scope} {own : List (Str × Nat)} {pos : Pos} {it : DI} {g : DG} {is : List Nat} {tt : DT} {te : DE}
theorem own_in {K : PySem.W.Frag} {w : Wd} {H0 H : Hp} {kp : List (V × D)} {O : List Addr} {σ : L2.St} {ρ : Env} (rep : Rep K w H0 kp O H σ ρ) {p : Addr} (hp : H p = none) (o : HO) (mo : Mut (some o)) :
    Rep K w H0 kp (p :: O) (upd H p o) σ ρ := by
  have hZ : p ∉ w.Z := fun z => w.dom _ rep.r p z hp
  have hO : p ∉ O := fun z => by have := rep.oS p z; rw [hp] at this; exact this
  have h0 : H0 p = none := by
    cases q : H0 p with
    | none => rfl
    | some u =>
      have := rep.s0 p u (off_some.mpr ⟨hZ, q⟩)
      rw [(off_some.mp this).2] at hp; cases hp
  have so : Same (Dw.off (w.Z ++ O) H) (Dw.off (w.Z ++ p :: O) (upd H p o)) := fun b x e => by
    rw [off_some] at e ⊢
    have hb : b ≠ p := ne_of_none e.2 hp
    refine ⟨fun z => ?_, by rw [upd_ne hb]; exact e.2⟩
    rcases List.mem_append.mp z with z | z
    · exact e.1 (List.mem_append_left _ z)
    · rcases List.mem_cons.mp z with z | z
      · exact hb z
      · exact e.1 (List.mem_append_right _ z)
  have st := Stp.laid (o := o) rep.r hp
  refine ⟨st.r, rep.s0.trans st.s, fun a ha => ?_, fun a ha => ?_, fun q hq => (rep.kp q hq).mono so, rep.len, fun i e h => ?_, rep.apart⟩
  · rcases List.mem_cons.mp ha with rfl | ha
    · exact ⟨h0, hZ⟩
    · exact rep.o0 a ha
  · by_cases e : a = p
    · subst e; rw [upd_same]; exact mo
    · rw [upd_ne e]; exact rep.oS a (by rcases List.mem_cons.mp ha with z | z; exact absurd z e; exact z)
  · obtain ⟨v, h1, h2⟩ := rep.var i e h
    refine ⟨v, h1, ?_⟩
    cases e with
    | d x => exact Rp.mono so h2
    | st => exact h2
    | own ds =>
      obtain ⟨a, vs, e1, e2, e3, e4⟩ := h2
      exact ⟨a, vs, e1, List.mem_cons_of_mem _ e2, by rw [upd_ne (show a ≠ p from fun z => hO (by rw [← z]; exact e2))]; exact e3, e4.mono so⟩
/-- the owned list at p is changed -/
theorem own_upd {K : PySem.W.Frag} {w : Wd} {H0 H : Hp} {kp : List (V × D)} {O : List Addr} {σ : L2.St} {ρ : Env} (rep : Rep K w H0 kp O H σ ρ) {p : Addr} (hp : p ∈ O) (o : HO) (mo : Mut (some o))
    (ho : ∀ (i : Nat) (ds : List D), ρ[i]? = some (some (.own ds)) → σ[i]? ≠ some (some (.ref p))) : Rep K w H0 kp O (upd H p o) σ ρ := by
  have hZ : p ∉ w.Z := (rep.o0 p hp).2
  have so : Same (Dw.off (w.Z ++ O) H) (Dw.off (w.Z ++ O) (upd H p o)) := same_off_upd (.inl (List.mem_append_right _ hp))
  have h0 : Same (Dw.off w.Z H0) (Dw.off w.Z (upd H p o)) := fun b x e => by
    have e1 := rep.s0 b x e
    rw [off_some] at e1 ⊢
    have hb : b ≠ p := by
      rintro rfl
      rw [off_some] at e
      rw [(rep.o0 b hp).1] at e; cases e.2
    exact ⟨e1.1, by rw [upd_ne hb]; exact e1.2⟩
  refine ⟨w.fr _ _ rep.r fun a ha => upd_ne fun e => hZ (e ▸ ha), h0, rep.o0, fun a ha => ?_, fun q hq => (rep.kp q hq).mono so, rep.len, fun i e h => ?_, rep.apart⟩
  · by_cases e : a = p
    · subst e; rw [upd_same]; exact mo
    · rw [upd_ne e]; exact rep.oS a ha
  · obtain ⟨v, h1, h2⟩ := rep.var i e h
    refine ⟨v, h1, ?_⟩
    cases e with
    | d x => exact Rp.mono so h2
    | st => exact h2
    | own ds =>
      obtain ⟨a, vs, e1, e2, e3, e4⟩ := h2
      have hne : a ≠ p := by
        rintro rfl
        exact ho i ds h (by rw [h1, e1])
      exact ⟨a, vs, e1, e2, by rw [upd_ne hne]; exact e3, e4.mono so⟩
theorem wComp_run {K : PySem.W.Frag} {Q : VK} {σ : L2.St} {J : It} {keep : List (V × D)} {ds : List D} {vs : List Nat} {D0 : Addr} {w : Wd} {H0 : Hp} {kp : List (V × D)} {O : List Addr} {ρ : Env} {P : List D → Prop}
    (his : ∀ i ∈ is, i ∈ vs) (hJ : ItIs K J keep ds) {H1 : Hp} (rep : Rep K w H0 kp O H1 σ ρ) (hk : ∀ p ∈ keep, Rp K (off (w.Z ++ O) H1) p.1 p.2) (hD : H1 D0 = none)
    (h : wComp g tt te (wipeE ρ vs) ds [] P) (fin : ∀ out xs H', P out → Stp w H1 H' → H' D0 = some (.lst xs) → Rps K (off (w.Z ++ D0 :: O) H') xs out → Q (.ref D0) H') :
    ∃ W : Nat → Nat → Hp → Prop, (∃ m, W 0 m (upd H1 D0 (.lst []))) ∧ ∀ i m H, W i m H →
      (J.stop i H ∧ Q (.ref D0) H) ∨ (J.go i H ∧ ∃ Nx : Hp → Prop, (∀ H', Nx H' → ∃ m', m' < m ∧ W (i + 1) m' H') ∧ ∀ x H', J.yld i H x H' → QRG K g is x (wipe σ vs) H' fun σ2 H2 => wipe σ2 vs = wipe σ vs ∧ QRT K tt σ2 H2 fun b H3 =>
        if b = true then QR K te σ2 H3 fun y H4 => ∃ acc, H4 D0 = some (.lst acc) ∧ acc.length < sizeLine ∧ Nx (upd H4 D0 (.lst (acc ++ [y]))) else Nx H3) := by
  have rep1 := (rep.keep hk).wipe vs
  have rep2 := own_in rep1 hD (.lst []) True.intro
  have hno : ∀ (j : Nat) (es : List D), (wipeE ρ vs)[j]? = some (some (.own es)) → (wipe σ vs)[j]? ≠ some (some (.ref D0)) := fun j es hj hq => by
    obtain ⟨hj1, hj2⟩ := wipeE_some hj
    obtain ⟨v', f1, f2⟩ := rep.var j _ hj1
    obtain ⟨a, vs', e3, e4, e5, e6⟩ := f2
    rw [wipe_out hj2] at hq
    rw [hq] at f1; cases f1; cases e3
    rw [hD] at e5; cases e5
  refine ⟨fun i m H => m = ds.length - i ∧ i ≤ ds.length ∧ ∃ acc out, Stp w H1 H ∧ Rep K w H0 (keep ++ kp) (D0 :: O) H (wipe σ vs) (wipeE ρ vs) ∧ H D0 = some (.lst acc) ∧ Rps K (off (w.Z ++ D0 :: O) H) acc out ∧ wComp g tt te (wipeE ρ vs) (ds.drop i) out P,
    ⟨ds.length, by simp, Nat.zero_le _, [], [], Stp.laid rep.r hD, rep2, upd_same, .nil, by simpa using h⟩, ?_⟩
  rintro i m H ⟨rfl, hi, acc, out, st, repi, eD, racc, hw⟩
  obtain ⟨hgo, hstop⟩ := hJ w (D0 :: O) H repi.wok (fun p hp => repi.kp p (List.mem_append_left _ hp))
  by_cases hlt : i < ds.length
  · right
    obtain ⟨hg1, hg2⟩ := hgo i ds[i] (List.getElem?_eq_getElem hlt)
    rw [List.drop_eq_getElem_cons hlt] at hw
    refine ⟨hg1, fun H' => ∃ acc out, Stp w H1 H' ∧ Rep K w H0 (keep ++ kp) (D0 :: O) H' (wipe σ vs) (wipeE ρ vs) ∧ H' D0 = some (.lst acc) ∧ Rps K (off (w.Z ++ D0 :: O) H') acc out ∧ wComp g tt te (wipeE ρ vs) (ds.drop (i + 1)) out P,
      fun H' ⟨acc, out, a1, a2, a3, a4, a5⟩ => ⟨ds.length - (i + 1), by omega, rfl, hlt, acc, out, a1, a2, a3, a4, a5⟩, fun x H' y => ?_⟩
    obtain ⟨s1, rx⟩ := hg2 x H' y
    have repi1 := repi.stp s1
    refine ⟨w, H0, keep ++ kp, D0 :: O, wipeE ρ vs, ds[i], _, repi1, rx, hw, fun ρ2 σ2 H2 p2 s2 rep2 f2 l2 => ⟨?_, ?_⟩⟩
    · have e : L2.wipe σ2 vs = L2.wipe (L2.wipe σ vs) vs := wipe_ext l2 fun j hj => f2 j fun z => hj (his j z)
      rw [e]
      exact wipe_ext (wipe_length _ _) fun j hj => wipe_out hj
    · have st2 := (st.trans s1).trans s2
      have eD2 : H2 D0 = some (.lst acc) := (off_some.mp ((s1.trans s2).s D0 _ (off_some.mpr ⟨(repi.o0 D0 List.mem_cons_self).2, eD⟩))).2
      have racc2 := racc.mono (repi.off (s1.trans s2))
      have back : ∀ H3, Stp w H2 H3 → Rep K w H0 (keep ++ kp) (D0 :: O) H3 (wipe σ vs) (wipeE ρ vs) := fun H3 s3 => repi.stp ((s1.trans s2).trans s3)
      refine rep2.goT p2 fun b H3 p3 s3 rep3 => ?_
      cases b with
      | false =>
        simp only [Bool.false_eq_true, if_false] at p3 ⊢
        exact ⟨acc, out, st2.trans s3, back H3 s3, (off_some.mp (s3.s D0 _ (off_some.mpr ⟨(repi.o0 D0 List.mem_cons_self).2, eD2⟩))).2, racc2.mono (rep2.off s3), p3⟩
      | true =>
        simp only [if_true] at p3 ⊢
        refine rep3.go p3 fun dy yv H4 p4 s4 rep4 ry => ?_
        have s34 := s3.trans s4
        have eD4 : H4 D0 = some (.lst acc) := (off_some.mp (s34.s D0 _ (off_some.mpr ⟨(repi.o0 D0 List.mem_cons_self).2, eD2⟩))).2
        have racc4 := racc2.mono (rep2.off s34)
        refine ⟨acc, eD4, by rw [racc.length]; exact p4.1, acc ++ [yv], out ++ [dy], ?_, ?_, upd_same, ?_, p4.2⟩
        · have a1 := st2.trans s34
          have a2 := own_upd (back H4 s34) (p := D0) List.mem_cons_self (.lst (acc ++ [yv])) True.intro hno
          refine ⟨fun b o e => ?_, a2.r⟩
          have e2 := a1.s b o e
          rw [off_some] at e e2 ⊢
          refine ⟨e2.1, ?_⟩
          rw [upd_ne (ne_of_none e.2 hD)]; exact e2.2
        · exact own_upd (back H4 s34) (p := D0) List.mem_cons_self (.lst (acc ++ [yv])) True.intro hno
        · exact (racc4.append (Rps.one ry)).mono (same_off_upd (.inl (by simp)))
  · left
    have e : i = ds.length := by omega
    subst e
    rw [List.drop_length] at hw
    exact ⟨hstop, fin out acc H hw st eD racc⟩
theorem lst_of {K : PySem.W.Frag} {w : Wd} {O : List Addr} {H : Hp} {p : Addr} {xs : List V} {ds : List D} (hp : p ∉ w.Z ++ O) (e : H p = some (.lst xs)) (r : Rps K (off (w.Z ++ p :: O) H) xs ds) : Rp K (off (w.Z ++ O) H) (.ref p) (.list ds) :=
  .lst (off_some.mpr ⟨hp, e⟩) (r.mono (off_same fun z hz => by
    rcases List.mem_append.mp hz with hz | hz
    · exact List.mem_append_left _ hz
    · exact List.mem_append_right _ (List.mem_cons_of_mem _ hz)))
theorem qe_lc (hc : X.calm = true) (hN : X.N.Nodup) (hi : QI X tg iter it) (ok : BlkOk X.N X.env.scope scope own) (his : is.all (fun i => (own.map (·.2)).contains i) = true)
    (hg : ∀ (s : Shared) (H : Hp) (C : Addr) (cl : List (Str × Addr)) (fp : List Addr), QG (X.blk s H scope (compEnvC scope cl C X.env) fp) tg g is) (ht : ∀ (s : Shared) (H : Hp) (C : Addr) (cl : List (Str × Addr)) (fp : List Addr), QTs (X.blk s H scope (compEnvC scope cl C X.env) fp) ifs tt)
    (he : ∀ (s : Shared) (H : Hp) (C : Addr) (cl : List (Str × Addr)) (fp : List Addr), QE (X.blk s H scope (compEnvC scope cl C X.env) fp) elt te) (hs : ∀ x, foldedSetIterable iter X.env x = pure x := by intro _; rfl) :
    QE X (.ListComp elt [⟨tg, iter, ifs, 0⟩] scope pos) (dComp it g tt te (own.map (·.2))) :=
  ⟨pe_imp (pe_lc hc hN hi.pi ok (fun s H C cl fp => (hg s H C cl fp).pg) (fun s H C cl fp => (ht s H C cl fp).pts) (fun s H C cl fp => (he s H C cl fp).pe) hs)
    fun σ H Q ⟨w, H0, kp, O, ρ, P, rep, h, q⟩ => ⟨w, H0, kp, O, ρ, _, rep, h, fun ds J keep H' p st hk hJ D0 hD =>
      wComp_run (fun i hi => by simpa using List.all_eq_true.mp his i hi) hJ (rep.stp st) hk hD p fun out xs H2 p2 s2 e2 r2 => q _ _ _ p2 (st.trans s2) (lst_of ((rep.stp st).wok.fresh hD) e2 r2)⟩⟩
end
end Dw

namespace Dw
open PySem PySem.Spec PyProof.Rows L2

/-! ### defs: promises about data -/
abbrev Sd := List Ent → (D → Prop) → Prop
inductive EntsR (K : PySem.W.Frag) (w : Wd) (O : List Addr) (H : Hp) : List V → List Ent → Prop
  | nil : EntsR K w O H [] []
  | cons {v : V} {vs : List V} {e : Ent} {es : List Ent} : EntR K w O H v e → EntsR K w O H vs es → EntsR K w O H (v :: vs) (e :: es)
theorem EntsR.length {K : PySem.W.Frag} {w : Wd} {O : List Addr} {H : Hp} {es : List Ent} : ∀ {vs : List V}, EntsR K w O H vs es → vs.length = es.length := by
  induction es with
  | nil => intro vs h; cases h; rfl
  | cons d ds ih => intro vs h; cases h with | cons a b => simp [ih b]
theorem EntsR.get {K : PySem.W.Frag} {w : Wd} {O : List Addr} {H : Hp} {es : List Ent} : ∀ {vs : List V} {i : Nat} {e : Ent}, EntsR K w O H vs es → es[i]? = some e → ∃ v, vs[i]? = some v ∧ EntR K w O H v e := by
  induction es with
  | nil => intro vs i e h q; simp at q
  | cons d ds ih =>
    intro vs i e h q
    cases h with
    | @cons v _ _ _ a b =>
      cases i with
      | zero => simp at q; subst q; exact ⟨v, by simp, a⟩
      | succ i => obtain ⟨u, e1, r⟩ := ih b (by simpa using q); exact ⟨u, by simpa using e1, r⟩
def spD (K : PySem.W.Frag) (n : Nat) (wp : Sd) : Sp := fun vs H Q _ => vs.length = n ∧ ∃ (w : Wd) (ents : List Ent) (P : D → Prop), w.R H ∧ EntsR K w [] H vs ents ∧ wp ents P ∧
  ∀ d v H', P d → Stp w H H' → Rp K (off w.Z H') v d → Q v H'
/-- the world of a callee: all that must stand -/
def Wd.inner (w : Wd) (O : List Addr) (H1 : Hp) : Wd where
  Z := w.Z ++ O
  st := w.st
  R := fun H => w.R H ∧ ∀ a ∈ O, H a = H1 a ∧ H1 a ≠ none
  fr := fun H H' h e => ⟨w.fr H H' h.1 fun a ha => e a (List.mem_append_left _ ha), fun a ha => ⟨(e a (List.mem_append_right _ ha)).trans (h.2 a ha).1, (h.2 a ha).2⟩⟩
  dom := fun H h a ha => (List.mem_append.mp ha).elim (w.dom H h.1 a) fun q => by rw [(h.2 a q).1]; exact (h.2 a q).2
theorem Wd.inner_r {w : Wd} {O : List Addr} {H : Hp} (k : Wok w O H) : (w.inner O H).R H := ⟨k.r, fun a ha => ⟨rfl, (k.o a ha).2⟩⟩
theorem Wd.inner_stp {w : Wd} {O : List Addr} {H H' : Hp} (k : Wok w O H) (s : Stp (w.inner O H) H H') : Stp w H H' :=
  ⟨fun b o e => by
    by_cases hb : b ∈ O
    · rw [off_some] at e ⊢
      exact ⟨e.1, by rw [(s.r.2 b hb).1]; exact e.2⟩
    · have e1 : off (w.inner O H).Z H b = some o := by
        rw [off_some] at e ⊢
        exact ⟨fun z => (List.mem_append.mp z).elim e.1 hb, e.2⟩
      have e2 := s.s b o e1
      rw [off_some] at e e2 ⊢
      exact ⟨e.1, e2.2⟩, s.r.1⟩

theorem Wd.inner_st {w : Wd} {O : List Addr} {H : Hp} (k : Wok w O H) (s : StW w) : StW (w.inner O H) := ⟨fun H' h => by
  obtain ⟨c, i, ns, ok, m1, m2, f1, f2⟩ := s.get H' h.1
  have n1 : ∀ a ∈ O, a ≠ w.st := fun a ha e => (k.o a ha).1 (e ▸ m1)
  have n2 : ∀ a ∈ O, a ≠ c := fun a ha e => (k.o a ha).1 (e ▸ m2)
  exact ⟨c, i, ns, ok, List.mem_append_left _ m1, List.mem_append_left _ m2, fun i' h0 => ⟨f1 i' h0, fun a ha => by rw [show (w.inner O H).st = w.st from rfl, upd_ne (n1 a ha)]; exact h.2 a ha⟩,
    fun ns' a1 a2 a3 => ⟨f2 ns' a1 a2 a3, fun a ha => by rw [upd_ne (n2 a ha)]; exact h.2 a ha⟩⟩⟩

/-! ### argument lists of calls of defs -/
abbrev DB := Env → (List Ent → Prop) → Prop
def QRB (K : PySem.W.Frag) (n : Nat) (f : DB) : TA := fun σ H Q => ∃ (w : Wd) (H0 : Hp) (kp : List (V × D)) (O : List Addr) (ρ : Env) (P : List Ent → Prop), Rep K w H0 kp O H σ ρ ∧ f ρ P ∧
  ∀ es vs H', P es → es.length = n → Stp w H H' → EntsR K (w.inner O H') [] H' vs es → Q vs H'
structure QB (X : Cx) (es : List Expr) (f : DB) : Prop where
  pa : PA X es (QRB X.K es.length f)
def bNil : DB := fun _ P => P []
def bCons (f : DE) (g : DB) : DB := fun ρ P => f ρ fun x => g ρ fun xs => P (.d x :: xs)
def bSt (i : Nat) (g : DB) : DB := fun ρ P => ρ[i]? = some (some .st) ∧ g ρ fun xs => P (.st :: xs)
section
variable {X : Cx} {e : Expr} {es : List Expr} {fa : DE} {fb : DB} {pos : Pos}
theorem qb_nil : QB X [] bNil := ⟨pa_imp pa_nil fun σ H Q ⟨w, H0, kp, O, ρ, P, rep, h, q⟩ => q _ _ _ h rfl (Stp.refl rep.r) .nil⟩
theorem Rep.goB {K : PySem.W.Frag} {w : Wd} {H0 H : Hp} {kp : List (V × D)} {O : List Addr} {σ : L2.St} {ρ : Env} {f : DB} {n : Nat} {P : List Ent → Prop} {Q : List V → Hp → Prop} (rep : Rep K w H0 kp O H σ ρ) (h : f ρ P)
    (k : ∀ es vs H', P es → es.length = n → Stp w H H' → Rep K w H0 kp O H' σ ρ → EntsR K (w.inner O H') [] H' vs es → Q vs H') : QRB K n f σ H Q :=
  ⟨w, H0, kp, O, ρ, P, rep, h, fun d v H' p l s r => k d v H' p l s (rep.stp s) r⟩
theorem qb_cons (ha : QE X e fa) (hr : QB X es fb) (hs : starEach (e :: es) X.env = (false, eval e X.env) :: starEach es X.env := by rfl) : QB X (e :: es) (bCons fa fb) :=
  ⟨pa_imp (pa_cons ha.pe hr.pa hs) fun σ H Q ⟨w, H0, kp, O, ρ, P, rep, h, q⟩ => rep.go h fun d v H1 h1 s1 rep1 r1 => rep1.goB h1 fun ds vs H2 h2 l2 s2 rep2 r2 =>
    q _ _ _ h2 (by simp [l2]) (s1.trans s2) (.cons (by
      show Rp X.K (off ((w.Z ++ O) ++ []) H2) v d
      rw [List.append_nil]
      exact r1.mono (rep1.off s2)) r2)⟩
theorem qb_st (i : Nat) {x : Str} {p : Pos} (hr : QB X es fb) (hN : X.N[i]? = some x := by rfl) (hv : Vis X.env.scope x := by first | exact Or.inl rfl | exact Or.inr (Or.inl rfl) | exact Or.inr (Or.inr rfl)) (hd : (x == ("__debug__" : Str)) = false := by decide)
    (hcd : (x == ("__classdict__" : Str)) = false := by decide) (hs : starEach (.Name x p :: es) X.env = (false, eval (.Name x p) X.env) :: starEach es X.env := by rfl) : QB X (.Name x p :: es) (bSt i fb) :=
  ⟨pa_imp (pa_cons (pe_var hN hv hd hcd) hr.pa hs) fun σ H Q ⟨w, H0, kp, O, ρ, P, rep, ⟨h0, h⟩, q⟩ => by
    obtain ⟨v, e, r⟩ := rep.var i _ h0
    exact ⟨v, e, rep.goB h fun ds vs H2 h2 l2 s2 rep2 r2 => q _ _ _ h2 (by simp [l2]) s2 (.cons ⟨r.1, Wd.inner_st rep2.wok r.2⟩ r2)⟩⟩
def dCall (wp : Sd) (f : DB) : DE := fun ρ P => f ρ fun es => wp es P
theorem qe_call {CX : CXT} {k : Nat} {f : Addr} {fd : FuncData} {ps : List Str} {wp : Sd} {E : XK} {x : Str} {p : Pos} (F : FnOk X.prog X.w X.K X.mg X.base CX k f fd ps (spD X.K (e :: es).length wp)) (hr : Room k X.A) (hg : Gl X x) (hm : X.mg x = some (.ref f)) (hk : PySem.W.keepIn X.K (.ref f) = true)
    (hb : Binds X.K fd ps []) (hx : Passes CX X E) (ha : QB X (e :: es) fb) (hdb : (x == ("__debug__" : Str)) = false := by decide)
    (he : starEach (e :: es) X.env = (false, eval e X.env) :: starEach es X.env := by rfl) (hpl : (backTo pos (starEach es X.env)).any (·.1) = false := by rfl) :
    QE X (.Call (.Name x p) (e :: es) [] pos) (dCall wp fb) :=
  ⟨pe_imp (pe_call F hr hg hm hk hb .nil hx ha.pa hdb he hpl) fun σ H Q ⟨w, H0, kp, O, ρ, P, rep, h, q⟩ => rep.goB h fun ds vs H2 h2 l2 s2 rep2 r2 => by
    rw [List.append_nil]
    exact ⟨by rw [r2.length, l2], w.inner O H2, ds, P, Wd.inner_r rep2.wok, r2, h2, fun d v H' p s r => q d v H' p (s2.trans (Wd.inner_stp rep2.wok s)) r⟩⟩
end
/-! ### statements -/
structure DEnds where
  nx : Env → Prop
  rt : D → Prop
  bk : Env → Prop := fun _ => False
  ct : Env → Prop := fun _ => False
abbrev DS := DEnds → Env → Prop
def RepX (K : PySem.W.Frag) (w : Wd) (H0 : Hp) (kp : List (V × D)) (H : Hp) (σ : L2.St) (ρ : Env) : Prop := ∃ O, Rep K w H0 kp O H σ ρ
def QRS (K : PySem.W.Frag) (t : DS) : TS := fun D σ H => ∃ (w : Wd) (H0 : Hp) (kp : List (V × Dw.D)) (ρ : Env) (E : DEnds), RepX K w H0 kp H σ ρ ∧ t E ρ ∧
  (∀ ρ' σ' H', E.nx ρ' → RepX K w H0 kp H' σ' ρ' → D.nx σ' H') ∧ (∀ ρ' σ' H', E.bk ρ' → RepX K w H0 kp H' σ' ρ' → D.bk σ' H') ∧ (∀ ρ' σ' H', E.ct ρ' → RepX K w H0 kp H' σ' ρ' → D.ct σ' H') ∧
  (∀ d v H', E.rt d → Same (off w.Z H0) (off w.Z H') → w.R H' → Rp K (off w.Z H') v d → D.rt v H')
structure QS (X : Cx) (st : Stmt) (t : DS) : Prop where
  ps : PS X st (QRS X.K t)
structure QSs (X : Cx) (st : List Stmt) (t : DS) : Prop where
  pss : PSs X st (QRS X.K t)
section
variable {X : Cx} {st : Stmt} {rest : List Stmt} {t u : DS} {e c : Expr} {fa fb : DE} {tc : DT} {pos : Pos}
theorem ps_imp {t t' : TS} (h : PS X st t) (i : ∀ D σ H, t' D σ H → t D σ H) : PS X st t' := ⟨fun pins s σ H D I q => h.run pins s σ H D I (i _ _ _ q)⟩
theorem pss_imp {t t' : TS} (h : PSs X rest t) (i : ∀ D σ H, t' D σ H → t D σ H) : PSs X rest t' := ⟨fun pins s σ H D I q => h.run pins s σ H D I (i _ _ _ q)⟩
def dNext : DS := fun E ρ => E.nx ρ
def dSeq (t u : DS) : DS := fun E ρ => t { E with nx := u E } ρ
theorem qss_nil : QSs X [] dNext := ⟨pss_imp pss_nil fun D σ H ⟨w, H0, kp, ρ, E, rep, h, q1, q2, q3, q4⟩ => q1 _ _ _ h rep⟩
theorem qss_cons (h1 : QS X st t) (h2 : QSs X rest u) : QSs X (st :: rest) (dSeq t u) :=
  ⟨pss_imp (pss_cons h1.ps h2.pss) fun D σ H ⟨w, H0, kp, ρ, E, rep, h, q1, q2, q3, q4⟩ =>
    ⟨w, H0, kp, ρ, _, rep, h, fun ρ' σ' H' p r => ⟨w, H0, kp, ρ', E, r, p, q1, q2, q3, q4⟩, q2, q3, q4⟩⟩
theorem qss_one (h1 : QS X st t) : QSs X [st] t := ⟨pss_one h1.ps⟩
theorem qs_pass : QS X (.Pass pos) dNext := ⟨ps_imp ps_pass fun D σ H ⟨w, H0, kp, ρ, E, rep, h, q1, q2, q3, q4⟩ => q1 _ _ _ h rep⟩
def dBreak : DS := fun E ρ => E.bk ρ
def dCont : DS := fun E ρ => E.ct ρ
theorem qs_break : QS X (.Break pos) dBreak := ⟨ps_imp ps_break fun D σ H ⟨w, H0, kp, ρ, E, rep, h, q1, q2, q3, q4⟩ => q2 _ _ _ h rep⟩
theorem qs_cont : QS X (.Continue pos) dCont := ⟨ps_imp ps_continue fun D σ H ⟨w, H0, kp, ρ, E, rep, h, q1, q2, q3, q4⟩ => q3 _ _ _ h rep⟩
/-- the owned lists are given up at a return -/
def dRet (f : DE) : DS := fun E ρ => f (peek ρ) E.rt
theorem qs_ret (he : QE X e fa) : QS X (.Return (some e) pos) (dRet fa) :=
  ⟨ps_imp (ps_ret he.pe) fun D σ H ⟨w, H0, kp, ρ, E, ⟨O, rep⟩, h, q1, q2, q3, q4⟩ => by
    have rp := rep.peek
    refine rp.go h fun d v H' p st rep' r => ?_
    rw [List.append_nil] at r
    exact q4 d v H' p (rep.s0.trans st.s) st.r r⟩
def dRetN : DS := fun E _ => E.rt .none
theorem qs_retN : QS X (.Return none pos) dRetN := ⟨ps_imp ps_retN fun D σ H ⟨w, H0, kp, ρ, E, ⟨O, rep⟩, h, q1, q2, q3, q4⟩ => q4 .none .non H h rep.s0 rep.r .non⟩
/-- an expression whose value is dropped -/
def dDrop (f : DE) : DS := fun E ρ => f (peek ρ) fun _ => E.nx ρ
theorem qs_expr (he : QE X e fa) (hs : swapsWith e none pos.line X.env = pure false := by rfl) : QS X (.Expr e pos) (dDrop fa) :=
  ⟨ps_imp (ps_expr he.pe hs) fun D σ H ⟨w, H0, kp, ρ, E, ⟨O, rep⟩, h, q1, q2, q3, q4⟩ => rep.peek.go h fun d v H' p st rep' r => q1 _ _ _ p ⟨O, rep.stp st⟩⟩
/-- a test: the owned lists may be looked at -/
def dIfS (c : DT) (t u : DS) : DS := fun E ρ => c (peek ρ) fun b => if b = true then t E ρ else u E ρ
theorem qs_if {a b : List Stmt} (hc : QT X c tc) (ha : QSs X a t) (hb : QSs X b u) : QS X (.If c a b pos) (dIfS tc t u) :=
  ⟨ps_imp (ps_if hc.pt ha.pss hb.pss) fun D σ H ⟨w, H0, kp, ρ, E, ⟨O, rep⟩, h, q1, q2, q3, q4⟩ => rep.peek.goT h fun k H' p st rep' => by
    cases k with
    | true => simp only [if_true] at p ⊢; exact ⟨w, H0, kp, ρ, E, ⟨O, rep.stp st⟩, p, q1, q2, q3, q4⟩
    | false => simp only [Bool.false_eq_true, if_false] at p ⊢; exact ⟨w, H0, kp, ρ, E, ⟨O, rep.stp st⟩, p, q1, q2, q3, q4⟩⟩
/-- name = value -/
def dSet (i : Nat) (f : DE) : DS := fun E ρ => f ρ fun x => E.nx (ρ.set i (some (.d x)))
theorem qs_set {i : Nat} {x : Str} {pos' : Pos} (hN : X.N.Nodup) (hi : X.N[i]? = some x) (hx : Loc X.env.scope x) (he : QE X e fa) (hs : swapsWith e (some (.Name x pos')) pos.line X.env = pure false := by rfl) (hf : X.fn x = true ∨ X.env.scope.names.lookup x = some .local := by first | exact .inl rfl | exact .inr rfl | assumption) :
    QS X (.Assign [.Name x pos'] e pos) (dSet i fa) :=
  ⟨ps_imp (ps_set hN hi hx he.pe hs hf) fun D σ H ⟨w, H0, kp, ρ, E, ⟨O, rep⟩, h, q1, q2, q3, q4⟩ => rep.go h fun d v H' p st rep' r => q1 _ _ _ p ⟨O, rep'.setD i r⟩⟩
def scalD : D → Bool
  | .none => true
  | .bool _ => true
  | .int _ => true
  | .str _ => true
  | _ => false
theorem Rp.scal {K : PySem.W.Frag} {H H' : Hp} {v : V} {d : D} (h : Rp K H v d) (s : scalD d = true) : Rp K H' v d := by
  cases h <;> first | (simp [scalD] at s; done) | constructor
/-- .. a number, text or truth, read off the owned lists -/
def dSetW (i : Nat) (f : DE) : DS := fun E ρ => f (peek ρ) fun x => scalD x = true ∧ E.nx (ρ.set i (some (.d x)))
theorem qs_setW {i : Nat} {x : Str} {pos' : Pos} (hN : X.N.Nodup) (hi : X.N[i]? = some x) (hx : Loc X.env.scope x) (he : QE X e fa) (hs : swapsWith e (some (.Name x pos')) pos.line X.env = pure false := by rfl) (hf : X.fn x = true ∨ X.env.scope.names.lookup x = some .local := by first | exact .inl rfl | exact .inr rfl | assumption) :
    QS X (.Assign [.Name x pos'] e pos) (dSetW i fa) :=
  ⟨ps_imp (ps_set hN hi hx he.pe hs hf) fun D σ H ⟨w, H0, kp, ρ, E, ⟨O, rep⟩, h, q1, q2, q3, q4⟩ => rep.peek.go h fun d v H' p st rep' r => q1 _ _ _ p.2 ⟨O, (rep.stp st).setD i (r.scal p.1)⟩⟩
/-- target = value -/
def dAsg (f : DE) (g : DG) : DS := fun E ρ => f ρ fun x => g x ρ E.nx
theorem qs_asg {tg : Expr} {g : DG} {is : List Nat} (he : QE X e fa) (hg : QG X tg g is) (hs : swapsWithSole [tg] e pos.line X.env = pure false := by rfl) (hw : swappedStores [tg] e X.env = pure none := by rfl)
    (h1 : (assignEach [tg] X.env).map (·.2) = [assign tg X.env] := by rfl) : QS X (.Assign [tg] e pos) (dAsg fa g) :=
  ⟨ps_imp (ps_asg he.pe hg.pg hs hw h1) fun D σ H ⟨w, H0, kp, ρ, E, ⟨O, rep⟩, h, q1, q2, q3, q4⟩ => rep.go h fun d v H' p st rep' r =>
    ⟨w, H0, kp, O, ρ, d, _, rep', r, p, fun ρ' σ' H2 p2 s2 rep2 _ _ => q1 _ _ _ p2 ⟨O, rep2⟩⟩⟩
/-- a, b = x, y with plain local names -/
def dPar (i j : Nat) (f : DA) : DS := fun E ρ => f ρ fun xs => match xs with
  | [x, y] => E.nx ((ρ.set i (some (.d x))).set j (some (.d y)))
  | _ => False
theorem qs_par {i j : Nat} {x y : Str} {a b : Expr} {fas : DA} {px py pt : Pos} {kt k2 pt2} (hc : X.calm = true) (hN : X.N.Nodup) (hi : X.N[i]? = some x) (hj : X.N[j]? = some y) (hij : i ≠ j)
    (hx : X.env.scope.names.lookup x = some .local) (hy : X.env.scope.names.lookup y = some .local) (ha : QA X [a, b] fas)
    (hw : swappedStores [.Tuple [.Name x px, .Name y py] kt pt] (.Tuple [a, b] k2 pt2) X.env = pure (some [x, y]))
    (hs : swapsWithSole [.Tuple [.Name x px, .Name y py] kt pt] (.Tuple [a, b] k2 pt2) pos.line X.env = pure false := by rfl) :
    QS X (.Assign [.Tuple [.Name x px, .Name y py] kt pt] (.Tuple [a, b] k2 pt2) pos) (dPar i j fas) :=
  ⟨ps_imp (ps_par hc hN hi hj hij hx hy ha.pa hw hs) fun D σ H ⟨w, H0, kp, ρ, E, ⟨O, rep⟩, h, q1, q2, q3, q4⟩ => rep.goA h fun ds vs H' p st rep' r => by
    split at p
    · obtain ⟨v, u, rfl, r1, r2⟩ := rps_two r
      exact ⟨v, u, rfl, q1 _ _ _ p ⟨O, (rep'.setD i r1).setD j r2⟩⟩
    · exact p.elim⟩
/-- while -/
def dWhile (c : DT) (body : DS) : DS := fun E ρ => ∃ W : Nat → Env → Prop, (∃ m, W m ρ) ∧ ∀ m ρ, W m ρ →
  c (peek ρ) fun b => if b = true then body { E with nx := fun ρ' => ∃ m', m' < m ∧ W m' ρ', ct := fun ρ' => ∃ m', m' < m ∧ W m' ρ', bk := E.nx } ρ else E.nx ρ
theorem qs_while {body : List Stmt} (hp : PassesOwn (model X.prog X.w) X.A X.env X.xe) (hc : QT X c tc) (hb : QSs X body t) : QS X (.While c body [] pos) (dWhile tc t) :=
  ⟨ps_imp (ps_while hp hc.pt hb.pss) fun D σ H ⟨w, H0, kp, ρ, E, rep, ⟨W, ⟨m0, w0⟩, turn⟩, q1, q2, q3, q4⟩ =>
    ⟨fun m σ H => ∃ ρ, RepX X.K w H0 kp H σ ρ ∧ W m ρ, ⟨m0, ρ, rep, w0⟩, fun m σ H ⟨ρ, ⟨O, rep⟩, wm⟩ => rep.peek.goT (turn m ρ wm) fun k H' p st rep' => by
      cases k with
      | true =>
        simp only [if_true] at p ⊢
        refine ⟨fun σ' H' => ∃ ρ' m', m' < m ∧ RepX X.K w H0 kp H' σ' ρ' ∧ W m' ρ', fun σ' H' ⟨ρ', m', a, b, c⟩ => ⟨m', a, ρ', b, c⟩, w, H0, kp, ρ, _, ⟨O, rep.stp st⟩, p, ?_, ?_, ?_, q4⟩
        · exact fun ρ' σ' H' ⟨m', a, b⟩ r => ⟨ρ', m', a, r, b⟩
        · exact fun ρ' σ' H' a r => q1 _ _ _ a r
        · exact fun ρ' σ' H' ⟨m', a, b⟩ r => ⟨ρ', m', a, r, b⟩
      | false => simp only [Bool.false_eq_true, if_false] at p ⊢; exact q1 _ _ _ p ⟨O, rep.stp st⟩⟩⟩
/-- for -/
def wFor (g : DG) (body : DS) (E : DEnds) : List D → Env → Prop
  | [], ρ => E.nx ρ
  | d :: ds, ρ => g d ρ fun ρ2 => body { E with nx := wFor g body E ds, ct := wFor g body E ds, bk := E.nx } ρ2
def dFor (it : DI) (g : DG) (body : DS) : DS := fun E ρ => it ρ fun ds => wFor g body E ds ρ
theorem qs_for {tg iter : Expr} {body : List Stmt} {it : DI} {g : DG} {is : List Nat} (hp : PassesOwn (model X.prog X.w) X.A X.env X.xe) (hc : X.calm = true) (hi : QI X tg iter it) (hg : QG X tg g is) (hb : QSs X body t)
    (hs : ∀ x, foldedSetIterable iter X.env x = pure x := by intro _; rfl) : QS X (.For tg iter body [] pos) (dFor it g t) :=
  ⟨ps_imp (ps_for hp hc hi.pi hg.pg hb.pss hs) fun D σ H ⟨w, H0, kp, ρ, E, ⟨O, rep⟩, h, q1, q2, q3, q4⟩ => ⟨w, H0, kp, O, ρ, _, rep, h, fun ds J keep H1 p st hk hJ => by
    have drop : ∀ {H' σ' ρ'}, RepX X.K w H0 (keep ++ kp) H' σ' ρ' → RepX X.K w H0 kp H' σ' ρ' := fun ⟨O', r⟩ => ⟨O', r.r, r.s0, r.o0, r.oS, fun q hq => r.kp q (List.mem_append_right _ hq), r.len, r.var, r.apart⟩
    refine ⟨fun i m σ H => m = ds.length - i ∧ i ≤ ds.length ∧ ∃ ρ, RepX X.K w H0 (keep ++ kp) H σ ρ ∧ wFor g t E (ds.drop i) ρ, ⟨ds.length, by simp, Nat.zero_le _, ρ, ⟨O, (rep.stp st).keep hk⟩, by simpa using p⟩, ?_⟩
    rintro i m σ H ⟨rfl, hi, ρ, ⟨O, rep⟩, hw⟩
    obtain ⟨hgo, hstop⟩ := hJ w O H rep.wok (fun p hp => rep.kp p (List.mem_append_left _ hp))
    by_cases hlt : i < ds.length
    · right
      obtain ⟨hg1, hg2⟩ := hgo i ds[i] (List.getElem?_eq_getElem hlt)
      rw [List.drop_eq_getElem_cons hlt] at hw
      refine ⟨hg1, fun σ' H' => ∃ ρ', RepX X.K w H0 (keep ++ kp) H' σ' ρ' ∧ wFor g t E (ds.drop (i + 1)) ρ', fun σ' H' ⟨ρ', a, b⟩ => ⟨ds.length - (i + 1), by omega, rfl, hlt, ρ', a, b⟩, fun x H' y => ?_⟩
      obtain ⟨s1, rx⟩ := hg2 x H' y
      refine ⟨w, H0, keep ++ kp, O, ρ, ds[i], _, rep.stp s1, rx, hw, fun ρ2 σ2 H2 p2 s2 rep2 _ _ => ?_⟩
      exact ⟨w, H0, keep ++ kp, ρ2, _, ⟨O, rep2⟩, p2, fun ρ' σ' H' a r => ⟨ρ', r, a⟩, fun ρ' σ' H' a r => q1 _ _ _ a (drop r), fun ρ' σ' H' a r => ⟨ρ', r, a⟩, q4⟩
    · left
      have e : i = ds.length := by omega
      subst e
      rw [List.drop_length] at hw
      exact ⟨hstop, q1 _ _ _ hw (drop ⟨O, rep⟩)⟩⟩⟩
end
/-! ### the def as a whole -/
def startE (n : Nat) (es : List Ent) : Env := es.map some ++ List.replicate (n - es.length) none
def wpOf (n : Nat) (t : DS) : Sd := fun es P => t { nx := fun _ => P .none, rt := P } (startE n es)
theorem start_rep {K : PySem.W.Frag} {w : Wd} {H : Hp} {N : List Str} {vs : List V} {es : List Ent} (r : w.R H) (h : EntsR K w [] H vs es) (hl : vs.length ≤ N.length) : Rep K w H [] [] H (L2.start N vs) (startE N.length es) := by
  have el := h.length
  refine ⟨r, fun _ _ e => e, fun a ha => by simp at ha, fun a ha => by simp at ha, fun p hp => by simp at hp, ?_, fun i e q => ?_, fun i j ds es' v _ q => ?_⟩
  · simp [L2.start, startE, el]
  · have hi : i < es.length := by
      unfold startE at q
      by_cases hi : i < es.length
      · exact hi
      · rw [List.getElem?_append_right (by simpa using hi), List.getElem?_replicate] at q
        split at q <;> cases q
    unfold startE at q
    rw [List.getElem?_append_left (by simpa using hi), List.getElem?_map] at q
    have q' : es[i]? = some e := by
      cases z : es[i]? with
      | none => rw [z] at q; simp at q
      | some y => rw [z] at q; simp at q; rw [q]
    obtain ⟨v, e1, e2⟩ := h.get q'
    refine ⟨v, ?_, e2⟩
    unfold L2.start
    rw [List.getElem?_append_left (by simp [el, hi]), List.getElem?_map, e1]; rfl
  · exfalso
    have hi : i < es.length := by
      unfold startE at q
      by_cases hi : i < es.length
      · exact hi
      · rw [List.getElem?_append_right (by simpa using hi), List.getElem?_replicate] at q
        split at q <;> cases q
    unfold startE at q
    rw [List.getElem?_append_left (by simpa using hi), List.getElem?_map] at q
    have q' : es[i]? = some (.own ds) := by
      cases z : es[i]? with
      | none => rw [z] at q; simp at q
      | some y => rw [z] at q; simp at q; rw [q]
    obtain ⟨v, e1, p, vs', e3, e4, _⟩ := h.get q'
    simp at e4
section
variable {P : Program} {w : World} {K : PySem.W.Frag} {mg : Str → Option Value} {base : Heap}
/-- a def by its body -/
theorem fn_data {x qual : Str} {st : Stmt} {f : Addr} {fd : FuncData} {N ps : List Str} {k : Nat} {t : DS} (F : L2.Fun K x qual st f fd) (S : FnScope N ps (defScope st))
    (hbody : ∀ (cdv : Value) (A : Around) (outer : List PySem.Env) (s : Shared) (H : Hp) (E : XK), Room k (A.deeper (envOfC qual (defScope st) s.heap.objs.size f cdv)) →
      QSs (cxOf CX0 P w K mg base N qual (defScope st) f cdv A outer s H E).nox (defBody st) t) : FnOk P w K mg base CX0 (k + 1) f fd ps (spD K ps.length (wpOf N.length t)) := by
  refine F.ok S (fun vs H Q E h => h.1) fun cdv A outer s H vs Q E hr h => ⟨_, (hbody cdv A outer s H E hr).pss, ?_⟩
  obtain ⟨hl, w, es, P, r, er, hw, q⟩ := h
  have hpl : ps.length ≤ N.length := by have := congrArg List.length S.pre; rw [List.length_take] at this; omega
  exact ⟨w, H, [], startE N.length es, { nx := fun _ => P .none, rt := P }, ⟨[], start_rep r er (by rw [hl]; exact hpl)⟩, hw,
    fun ρ' σ' H' p ⟨O, rep⟩ => q .none .non H' p ⟨rep.s0, rep.r⟩ .non, fun _ _ _ p _ => p.elim, fun _ _ _ p _ => p.elim, fun d v H' p s r rp => q d v H' p ⟨s, r⟩ rp⟩
end
end Dw

namespace Dw
open PySem PySem.Spec PyProof.Rows L2

/-! ### data without lists lie apart from owned lists -/
mutual
def noList : D → Bool
  | .none => true
  | .bool _ => true
  | .int _ => true
  | .str _ => true
  | .list _ => false
  | .tuple ds => noLists ds
  | .dict _ => false
def noLists : List D → Bool
  | [] => true
  | d :: ds => noList d && noLists ds
end
theorem sqT_apart {K : PySem.W.Frag} {Z O : List Addr} {H : Hp} {a : Addr} {xs : List V} (h : SqT K (off Z H) a xs) (m : ∀ p ∈ O, Mut (H p)) : SqT K (off (Z ++ O) H) a xs := by
  have key : ∀ {o : HO}, off Z H a = some o → ¬ Mut (some o) → off (Z ++ O) H a = some o := fun {o} e nm => by
    rw [off_some] at e ⊢
    refine ⟨fun z => ?_, e.2⟩
    rcases List.mem_append.mp z with z | z
    · exact e.1 z
    · have := m a z
      rw [e.2] at this; exact nm this
  rcases h with (h | ⟨o, h⟩) | h
  · exact .inl (.inl (key h id))
  · exact .inl (.inr ⟨o, key h id⟩)
  · exact .inr h
mutual
theorem Rp.apart {K : PySem.W.Frag} {Z O : List Addr} {H : Hp} (m : ∀ p ∈ O, Mut (H p)) : ∀ {d : D} {v : V}, Rp K (off Z H) v d → noList d = true → Rp K (off (Z ++ O) H) v d
  | .none, _, h, _ => by cases h; exact .non
  | .bool _, _, h, _ => by cases h; exact .bl _
  | .int _, _, h, _ => by cases h; exact .int _
  | .str _, _, h, _ => by cases h; exact .str _
  | .list _, _, _, n => by simp [noList] at n
  | .tuple ds, _, h, n => by
    cases h with
    | tup e r => exact .tup (sqT_apart e m) (Rps.apart m r (by simpa [noList] using n))
  | .dict _, _, h, _ => by cases h
theorem Rps.apart {K : PySem.W.Frag} {Z O : List Addr} {H : Hp} (m : ∀ p ∈ O, Mut (H p)) : ∀ {ds : List D} {vs : List V}, Rps K (off Z H) vs ds → noLists ds = true → Rps K (off (Z ++ O) H) vs ds
  | [], _, h, _ => by cases h; exact .nil
  | d :: ds, _, h, n => by
    simp only [noLists, Bool.and_eq_true] at n
    cases h with
    | cons a b => exact .cons (Rp.apart m a n.1) (Rps.apart m b n.2)
end
theorem noLists_iff : ∀ {ds : List D}, noLists ds = true ↔ ∀ d ∈ ds, noList d = true
  | [] => by simp [noLists]
  | d :: ds => by simp [noLists, noLists_iff (ds := ds)]

/-! ### owned lists: given, frozen, set -/
section
variable {K : PySem.W.Frag} {w : Wd} {H0 H H' : Hp} {kp : List (V × D)} {O : List Addr} {σ : L2.St} {ρ : Env}
theorem Rep.grow (rep : Rep K w H0 kp O H σ ρ) (st : Stp w H H') {p : Addr} (hp : H p = none) (hp' : Mut (H' p)) : Rep K w H0 kp (p :: O) H' σ ρ := by
  have hZ : p ∉ w.Z := fun z => w.dom _ rep.r p z hp
  have h0 : H0 p = none := by
    cases q : H0 p with
    | none => rfl
    | some u =>
      have := rep.s0 p u (off_some.mpr ⟨hZ, q⟩)
      rw [(off_some.mp this).2] at hp; cases hp
  have so : Same (Dw.off (w.Z ++ O) H) (Dw.off (w.Z ++ p :: O) H') := fun b x e => by
    have e' := rep.off st b x e
    rw [off_some] at e e' ⊢
    refine ⟨fun z => ?_, e'.2⟩
    rcases List.mem_append.mp z with z | z
    · exact e.1 (List.mem_append_left _ z)
    · rcases List.mem_cons.mp z with z | z
      · rw [z, hp] at e; cases e.2
      · exact e.1 (List.mem_append_right _ z)
  have rep' := rep.stp st
  refine ⟨st.r, rep'.s0, fun a ha => ?_, fun a ha => ?_, fun q hq => (rep.kp q hq).mono so, rep.len, fun i e h => ?_, rep.apart⟩
  · rcases List.mem_cons.mp ha with rfl | ha
    · exact ⟨h0, hZ⟩
    · exact rep.o0 a ha
  · rcases List.mem_cons.mp ha with rfl | ha
    · exact hp'
    · exact rep'.oS a ha
  · obtain ⟨v, h1, h2⟩ := rep.var i e h
    refine ⟨v, h1, ?_⟩
    cases e with
    | d x => exact Rp.mono so h2
    | st => exact h2
    | own ds =>
      obtain ⟨a, vs, e1, e2, e3, e4⟩ := h2
      obtain ⟨v', h1', a', vs', e1', e2', e3', e4'⟩ := rep'.var i _ h
      rw [h1] at h1'; cases h1'
      rw [e1] at e1'; cases e1'
      have : vs' = vs := by
        have := (off_some.mp (st.s a _ (off_some.mpr ⟨(rep.o0 a e2).2, e3⟩))).2
        rw [e3'] at this; cases this; rfl
      subst this
      exact ⟨a, vs', e1, List.mem_cons_of_mem _ e2, e3', e4.mono so⟩
/-- a slot is given an owned list that no other slot has -/
theorem Rep.setO (rep : Rep K w H0 kp O H σ ρ) (i : Nat) {p : Addr} {vs : List V} {ds : List D} (hp : p ∈ O) (e : H p = some (.lst vs)) (r : Rps K (Dw.off (w.Z ++ O) H) vs ds)
    (no : ∀ (j : Nat) (es : List D), j ≠ i → ρ[j]? = some (some (.own es)) → σ[j]? ≠ some (some (.ref p))) : Rep K w H0 kp O H (σ.set i (some (.ref p))) (ρ.set i (some (.own ds))) := by
  have at_ : ∀ j (x : Ent), (ρ.set i (some (.own ds)))[j]? = some (some x) → (j = i ∧ x = .own ds ∧ i < ρ.length) ∨ (j ≠ i ∧ ρ[j]? = some (some x)) := fun j x h => by
    by_cases hj : i = j
    · subst hj
      by_cases hi : i < ρ.length
      · rw [List.getElem?_set_self hi] at h; cases h; exact .inl ⟨rfl, rfl, hi⟩
      · rw [List.getElem?_eq_none (by simpa using hi)] at h; cases h
    · rw [List.getElem?_set_ne hj] at h; exact .inr ⟨fun z => hj z.symm, h⟩
  refine ⟨rep.r, rep.s0, rep.o0, rep.oS, rep.kp, by simp [rep.len], fun j x h => ?_, fun j k es fs u hne h1 h2 h3 => ?_⟩
  · rcases at_ j x h with ⟨rfl, rfl, hi⟩ | ⟨hj, h⟩
    · exact ⟨.ref p, List.getElem?_set_self (by rw [← rep.len]; exact hi), p, vs, rfl, hp, e, r⟩
    · obtain ⟨u, e1, e2⟩ := rep.var j x h
      exact ⟨u, by rw [List.getElem?_set_ne (fun z => hj z.symm)]; exact e1, e2⟩
  · rcases at_ j _ h1 with ⟨rfl, _, hi⟩ | ⟨hj, h1'⟩
    · rw [List.getElem?_set_self (by rw [← rep.len]; exact hi)] at h3
      cases h3
      rcases at_ k _ h2 with ⟨rfl, _, _⟩ | ⟨hk, h2⟩
      · exact absurd rfl hne
      · rw [List.getElem?_set_ne (fun z => hk z.symm)]; exact no k fs hk h2
    · rw [List.getElem?_set_ne (fun z => hj z.symm)] at h3
      rcases at_ k _ h2 with ⟨rfl, _, hk⟩ | ⟨hk, h2⟩
      · rw [List.getElem?_set_self (by rw [← rep.len]; exact hk)]
        intro z; cases z
        exact no j es hj h1' h3
      · rw [List.getElem?_set_ne (fun z => hk z.symm)]
        exact rep.apart j k es fs u hne h1' h2 h3
/-- the owned list of a slot is changed -/
theorem Rep.updO (rep : Rep K w H0 kp O H σ ρ) {i : Nat} {p : Addr} {ds : List D} (hi : ρ[i]? = some (some (.own ds))) (hs : σ[i]? = some (some (.ref p))) {vs : List V} {es : List D} (r : Rps K (Dw.off (w.Z ++ O) H) vs es) :
    Rep K w H0 kp O (upd H p (.lst vs)) σ (ρ.set i (some (.own es))) := by
  obtain ⟨v, e1, p', vs', e2, hp, e3, e4⟩ := rep.var i _ hi
  rw [hs] at e1; cases e1; cases e2
  have hlt : i < ρ.length := (List.getElem?_eq_some_iff.mp hi).1
  -- forget the slot, change the list, give it back
  have rep1 : Rep K w H0 kp O H σ (ρ.set i none) := rep.weak (by simp [rep.len]) fun j e h => by
    by_cases hj : i = j
    · subst hj; rw [List.getElem?_set_self hlt] at h; cases h
    · rw [List.getElem?_set_ne hj] at h; exact ⟨h, rfl⟩
  have no : ∀ (j : Nat) (fs : List D), (ρ.set i none)[j]? = some (some (.own fs)) → σ[j]? ≠ some (some (.ref p)) := fun j fs h => by
    by_cases hj : i = j
    · subst hj; rw [List.getElem?_set_self hlt] at h; cases h
    · rw [List.getElem?_set_ne hj] at h
      exact rep.apart i j ds fs _ hj hi h hs
  have rep2 := own_upd rep1 hp (.lst vs) True.intro no
  have rep3 := rep2.setO i hp upd_same (r.mono (same_off_upd (.inl (List.mem_append_right _ hp)))) fun j fs _ h => no j fs h
  rw [List.set_set] at rep3
  have : σ.set i (some (V.ref p)) = σ := by
    apply List.ext_getElem?
    intro j
    by_cases hj : i = j
    · subst hj; rw [List.getElem?_set_self (by rw [← rep.len]; exact hlt), hs]
    · rw [List.getElem?_set_ne hj]
  rw [this] at rep3
  exact rep3
/-- the owned list of a slot becomes plain data -/
theorem Rep.freeze (rep : Rep K w H0 kp O H σ ρ) {i : Nat} {ds : List D} (hi : ρ[i]? = some (some (.own ds))) : ∃ O', Rep K w H0 kp O' H σ (ρ.set i (some (.d (.list ds)))) := by
  obtain ⟨v, e1, p, vs, e2, hp, e3, e4⟩ := rep.var i _ hi
  have hlt : i < ρ.length := (List.getElem?_eq_some_iff.mp hi).1
  have so : Same (Dw.off (w.Z ++ O) H) (Dw.off (w.Z ++ O.filter (fun a => decide (a ≠ p))) H) := off_same fun z hz => by
    rcases List.mem_append.mp hz with hz | hz
    · exact List.mem_append_left _ hz
    · exact List.mem_append_right _ (List.mem_filter.mp hz).1
  refine ⟨O.filter (fun a => decide (a ≠ p)), rep.r, rep.s0, fun a ha => rep.o0 a (List.mem_filter.mp ha).1, fun a ha => rep.oS a (List.mem_filter.mp ha).1, fun q hq => (rep.kp q hq).mono so, by simp [rep.len], fun j e h => ?_, fun j k es fs u hne h1 h2 h3 => ?_⟩
  · by_cases hj : i = j
    · subst hj
      rw [List.getElem?_set_self hlt] at h; cases h
      refine ⟨v, e1, ?_⟩
      rw [e2]
      exact .lst (off_some.mpr ⟨fun z => by
        rcases List.mem_append.mp z with z | z
        · exact (rep.o0 p hp).2 z
        · have := (List.mem_filter.mp z).2; simp at this, e3⟩) (e4.mono so)
    · rw [List.getElem?_set_ne hj] at h
      obtain ⟨u, f1, f2⟩ := rep.var j e h
      refine ⟨u, f1, ?_⟩
      cases e with
      | d x => exact Rp.mono so f2
      | st => exact f2
      | own es =>
        obtain ⟨a, ws, g1, g2, g3, g4⟩ := f2
        refine ⟨a, ws, g1, List.mem_filter.mpr ⟨g2, decide_eq_true ?_⟩, g3, g4.mono so⟩
        rintro rfl
        exact rep.apart i j ds es _ hj hi h (by rw [e1, e2]) (by rw [f1, g1])
  · have a : ∀ (j : Nat) (gs : List D), (ρ.set i (some (Ent.d (.list ds))))[j]? = some (some (Ent.own gs)) → ρ[j]? = some (some (Ent.own gs)) := fun j gs h => by
      by_cases hj : i = j
      · subst hj; rw [List.getElem?_set_self hlt] at h; cases h
      · rw [List.getElem?_set_ne hj] at h; exact h
    exact rep.apart j k es fs u hne (a j es h1) (a k fs h2) h3
end

/-! ### fresh lists -/
abbrev DF := Env → (List D → Prop) → Prop
def QRF (K : PySem.W.Frag) (f : DF) : TE := fun σ H Q => ∃ (w : Wd) (H0 : Hp) (kp : List (V × D)) (O : List Addr) (ρ : Env) (P : List D → Prop), Rep K w H0 kp O H σ ρ ∧ f ρ P ∧
  ∀ ds p vs H', P ds → Stp w H H' → H p = none → H' p = some (.lst vs) → Rps K (off (w.Z ++ p :: O) H') vs ds → Q (.ref p) H'
structure QF (X : Cx) (e : Expr) (f : DF) : Prop where
  pe : PE X e (QRF X.K f)
section
variable {K : PySem.W.Frag} {w : Wd} {H0 H H' H1 : Hp} {kp : List (V × D)} {O : List Addr} {σ : L2.St} {ρ : Env} {p : Addr}
theorem Stp.none (st : Stp w H H') (r : w.R H') (h : H' p = Option.none) : H p = Option.none := by
  have hZ : p ∉ w.Z := fun z => w.dom _ r p z h
  cases q : H p with
  | none => rfl
  | some o =>
    have := (off_some.mp (st.s p o (off_some.mpr ⟨hZ, q⟩))).2
    rw [h] at this; cases this
theorem rps_fresh {xs : List V} {ds : List D} (r : Rps K (Dw.off (w.Z ++ O) H) xs ds) (hp : H p = Option.none) (o : HO) : Rps K (Dw.off (w.Z ++ p :: O) (upd H p o)) xs ds :=
  r.mono fun b x e => by
    rw [off_some] at e ⊢
    have hb : b ≠ p := ne_of_none e.2 hp
    refine ⟨fun z => ?_, by rw [upd_ne hb]; exact e.2⟩
    rcases List.mem_append.mp z with z | z
    · exact e.1 (List.mem_append_left _ z)
    · rcases List.mem_cons.mp z with z | z
      · exact hb z
      · exact e.1 (List.mem_append_right _ z)
end
section
variable {X : Cx} {a b e : Expr} {es : List Expr} {fa fb : DE} {fas : DA} {ff : DF} {pos : Pos}
def fLst (fa : DA) : DF := fun ρ P => fa ρ fun ds => ds.length ≤ sizeLine ∧ P ds
theorem qf_lst (h : QA X es fas) : QF X (.List es pos) (fLst fas) :=
  ⟨pe_imp (pe_lst h.pa) fun σ H Q ⟨w, H0, kp, O, ρ, P, rep, h, q⟩ => rep.goA h fun ds vs H1 h1 s1 rep1 r1 =>
    ⟨by rw [r1.length]; exact h1.1, fun p hp => q _ p _ _ h1.2 (s1.trans (Stp.laid rep1.r hp)) (s1.none rep1.r hp) upd_same (rps_fresh r1 hp _)⟩⟩
/-- [..] * n -/
def fRep (f : DF) (g : DE) : DF := fun ρ P => f ρ fun ds => g ρ fun y => ∃ k, y = .int k ∧ (-(2 ^ 63) ≤ k ∧ k < 2 ^ 63 ∧ ds.length * k.toNat ≤ sizeLine) ∧ P (List.replicate k.toNat ds).flatten
theorem qf_rep (ha : QF X a ff) (hb : QE X b fb) : QF X (.BinOp a .Mult b pos) (fRep ff fb) :=
  ⟨pe_imp (pe_op op_rep ha.pe hb.pe) fun σ H Q ⟨w, H0, kp, O, ρ, P, rep, h, q⟩ => ⟨w, H0, kp, O, ρ, _, rep, h, fun ds p vs H1 h1 s1 hp e1 r1 => by
    have rep1 := rep.grow s1 hp (by rw [e1]; exact True.intro)
    refine rep1.go h1 fun y yv H2 ⟨k, ey, c, p2⟩ s2 rep2 ry => ?_
    subst ey
    have e2 : H2 p = some (.lst vs) := (off_some.mp (s2.s p _ (off_some.mpr ⟨(rep1.o0 p List.mem_cons_self).2, e1⟩))).2
    refine ⟨p, k, vs, rfl, ry.int_inv, e2, c.1, c.2.1, by rw [r1.length]; exact c.2.2, fun p2' hp2 => ?_⟩
    have st2 := s1.trans s2
    have r2 := r1.mono (rep1.off s2)
    have hp3 := s1.none (rep.stp s1).r (s2.none rep2.r hp2)
    refine q _ p2' _ _ p2 (st2.trans (Stp.laid rep2.r hp2)) hp3 upd_same ((rps_fresh (O := p :: O) (r2.rep _) hp2 _).mono (off_same fun z hz => ?_))
    rcases List.mem_append.mp hz with hz | hz
    · exact List.mem_append_left _ hz
    · rcases List.mem_cons.mp hz with hz | hz
      · exact List.mem_append_right _ (by simp [hz])
      · exact List.mem_append_right _ (by simp [hz])⟩⟩
/-- list(x) -/
def fListOf (fa : DE) : DF := fun ρ P => fa ρ fun x => match x with
  | .list ds => P ds
  | .tuple ds => P ds
  | _ => False
theorem qf_list {p : Pos} (hg : Gl X "list") (hm : X.mg "list" = none) (ha : QE X a fa) (he : starEach [a] X.env = (false, eval a X.env) :: starEach [] X.env := by rfl) (hpl : (backTo pos (starEach [] X.env)).any (·.1) = false := by rfl) :
    QF X (.Call (.Name "list" p) [a] [] pos) (fListOf fa) :=
  ⟨pe_imp (pe_callTy call_list_of hg hm (by decide +kernel) (pa_cons ha.pe pa_nil he) (by decide) (by decide) he hpl) fun σ H Q ⟨w, H0, kp, O, ρ, P, rep, h, q⟩ => rep.go h fun d v H1 h1 s1 rep1 r1 => by
    cases d <;> simp only at h1
    · obtain ⟨l, xs, rfl, e1, r⟩ := r1.list_inv
      exact ⟨l, xs, rfl, .inl (SqL.of (off_some.mp e1).2), fun p hp => q _ p _ _ h1 (s1.trans (Stp.laid rep1.r hp)) (s1.none rep1.r hp) upd_same (rps_fresh r hp _)⟩
    · obtain ⟨l, xs, rfl, e1, r⟩ := r1.tup_inv
      exact ⟨l, xs, rfl, .inr (sqT_off e1), fun p hp => q _ p _ _ h1 (s1.trans (Stp.laid rep1.r hp)) (s1.none rep1.r hp) upd_same (rps_fresh r hp _)⟩⟩
/-- a[lo:hi] of a list -/
def fSl (fa : DE) (fl fh : DO) : DF := fun ρ P => fa ρ fun x => fl ρ fun lo => fh ρ fun hi => match x with
  | .list ds => P (cutD ds lo hi)
  | _ => False
theorem qf_slice {lo hi : Option Expr} {fl fh : DO} {p2 : Pos} (ha : QE X a fa) (hl : QO X lo fl) (hh : QO X hi fh) : QF X (.Subscript a (.Slice lo hi none p2) pos) (fSl fa fl fh) :=
  ⟨pe_imp (pe_slice sl_list ha.pe hl.po hh.po) fun σ H Q ⟨w, H0, kp, O, ρ, P, rep, h, q⟩ => rep.go h fun x v H1 h1 s1 rep1 r1 => rep1.goO h1 fun lo H2 h2 s2 rep2 => rep2.goO h2 fun hi H3 h3 s3 rep3 => by
    have r3 := r1.mono ((rep1.off s2).trans (rep2.off s3))
    have st := (s1.trans s2).trans s3
    cases x <;> simp only at h3
    obtain ⟨l, xs, rfl, e1, r⟩ := r3.list_inv
    exact ⟨l, xs, rfl, SqL.of (off_some.mp e1).2, fun p hp => q _ p _ _ h3 (st.trans (Stp.laid rep3.r hp)) (st.none rep3.r hp) upd_same (rps_fresh (r.cut _ _) hp _)⟩⟩
/-- a + b of lists -/
def fAdd (fa fb : DE) : DF := fun ρ P => fa ρ fun x => fb ρ fun y => match x, y with
  | .list ds, .list es => ds.length + es.length ≤ sizeLine ∧ P (ds ++ es)
  | _, _ => False
theorem qf_add (ha : QE X a fa) (hb : QE X b fb) : QF X (.BinOp a .Add b pos) (fAdd fa fb) :=
  ⟨pe_imp (pe_op op_cat ha.pe hb.pe) fun σ H Q ⟨w, H0, kp, O, ρ, P, rep, h, q⟩ => rep.go h fun x v H1 h1 s1 rep1 r1 => rep1.go h1 fun y u H2 h2 s2 rep2 r2 => by
    cases x <;> cases y <;> simp only at h2
    obtain ⟨l, xs, rfl, e1, ra⟩ := (r1.mono (rep1.off s2)).list_inv
    obtain ⟨l2, ys, rfl, e2, rb⟩ := r2.list_inv
    have st := s1.trans s2
    exact ⟨l, l2, xs, ys, rfl, rfl, (off_some.mp e1).2, (off_some.mp e2).2, by rw [ra.length, rb.length]; exact h2.1, fun p hp => q _ p _ _ h2.2 (st.trans (Stp.laid rep2.r hp)) (st.none rep2.r hp) upd_same (rps_fresh (ra.append rb) hp _)⟩⟩
end
section
variable {X : Cx} {elt tg iter : Expr} {ifs : List Expr} {scope : Scope} {own : List (Str × Nat)} {pos : Pos} {it : DI} {g : DG} {is : List Nat} {tt : DT} {te : DE}
def fComp (it : DI) (g : DG) (tt : DT) (te : DE) (own : List Nat) : DF := fun ρ P => it ρ fun ds => wComp g tt te (wipeE ρ own) ds [] P
theorem tLc_F {K : PySem.W.Frag} {σ : L2.St} {H : Hp} {Q : VK} {vs : List Nat} (his : is.all (fun i => vs.contains i) = true) (h : QRF K (fComp it g tt te vs) σ H Q) : tLc (QRI K it) (QRG K g is) (QRT K tt) (QR K te) vs σ H Q := by
  obtain ⟨w, H0, kp, O, ρ, P, rep, h, q⟩ := h
  exact ⟨w, H0, kp, O, ρ, _, rep, h, fun ds J keep H' p st hk hJ D0 hD =>
    wComp_run (fun i hi => by simpa using List.all_eq_true.mp his i hi) hJ (rep.stp st) hk hD p fun out xs H2 p2 s2 e2 r2 => q _ D0 _ _ p2 (st.trans s2) (st.none (rep.stp st).r hD) e2 r2⟩
theorem qf_lc (hc : X.calm = true) (hN : X.N.Nodup) (hi : QI X tg iter it) (ok : BlkOk X.N X.env.scope scope own) (his : is.all (fun i => (own.map (·.2)).contains i) = true)
    (hg : ∀ (s : Shared) (H : Hp) (C : Addr) (cl : List (Str × Addr)) (fp : List Addr), QG (X.blk s H scope (compEnvC scope cl C X.env) fp) tg g is) (ht : ∀ (s : Shared) (H : Hp) (C : Addr) (cl : List (Str × Addr)) (fp : List Addr), QTs (X.blk s H scope (compEnvC scope cl C X.env) fp) ifs tt)
    (he : ∀ (s : Shared) (H : Hp) (C : Addr) (cl : List (Str × Addr)) (fp : List Addr), QE (X.blk s H scope (compEnvC scope cl C X.env) fp) elt te) (hs : ∀ x, foldedSetIterable iter X.env x = pure x := by intro _; rfl) :
    QF X (.ListComp elt [⟨tg, iter, ifs, 0⟩] scope pos) (fComp it g tt te (own.map (·.2))) :=
  ⟨pe_imp (pe_lc hc hN hi.pi ok (fun s H C cl fp => (hg s H C cl fp).pg) (fun s H C cl fp => (ht s H C cl fp).pts) (fun s H C cl fp => (he s H C cl fp).pe) hs) fun σ H Q h => tLc_F his h⟩
/-- a fresh list is a list -/
theorem QF.qe {e : Expr} {ff : DF} (h : QF X e ff) : QE X e (fun ρ P => ff ρ fun ds => P (.list ds)) :=
  ⟨pe_imp h.pe fun σ H Q ⟨w, H0, kp, O, ρ, P, rep, h, q⟩ => ⟨w, H0, kp, O, ρ, _, rep, h, fun ds p vs H' p1 st hp e r => q _ _ _ p1 st (lst_of (fun z => by
    rcases List.mem_append.mp z with z | z
    · exact w.dom _ rep.r p z hp
    · have := rep.oS p z; rw [hp] at this; exact this) e r)⟩⟩
end

/-! ### statements with owned lists -/
section
variable {X : Cx} {e : Expr} {fa fb : DE} {ff : DF} {t : DS} {st : Stmt} {pos : Pos} {i : Nat} {x : Str} {pos' : Pos}
theorem rep_new {K : PySem.W.Frag} {w : Wd} {H0 H H' : Hp} {kp : List (V × D)} {O : List Addr} {σ : L2.St} {ρ : Env} (rep : Rep K w H0 kp O H σ ρ) (i : Nat) {p : Addr} {vs : List V} {ds : List D} (s : Stp w H H') (hp : H p = none) (e : H' p = some (.lst vs)) (r : Rps K (off (w.Z ++ p :: O) H') vs ds) :
    Rep K w H0 kp (p :: O) H' (σ.set i (some (.ref p))) (ρ.set i (some (.own ds))) :=
  (rep.grow s hp (by rw [e]; exact True.intro)).setO i List.mem_cons_self e r fun j es _ h1 h2 => by
    obtain ⟨v, f1, a, ws, f2, f3, f4, f5⟩ := rep.var j _ h1
    rw [h2] at f1; cases f1; cases f2
    rw [hp] at f4; cases f4
/-- name = a fresh list, owned from now on -/
def dNew (i : Nat) (f : DF) : DS := fun E ρ => f ρ fun ds => E.nx (ρ.set i (some (.own ds)))
theorem qs_new (hN : X.N.Nodup) (hi : X.N[i]? = some x) (hx : Loc X.env.scope x) (he : QF X e ff) (hs : swapsWith e (some (.Name x pos')) pos.line X.env = pure false := by rfl) (hf : X.fn x = true ∨ X.env.scope.names.lookup x = some .local := by first | exact .inl rfl | exact .inr rfl | assumption) :
    QS X (.Assign [.Name x pos'] e pos) (dNew i ff) :=
  ⟨ps_imp (ps_set hN hi hx he.pe hs hf) fun D σ H ⟨w, H0, kp, ρ, E, ⟨O, rep⟩, h, q1, q2, q3, q4⟩ => ⟨w, H0, kp, O, ρ, _, rep, h, fun ds p vs H' p1 s hp e r => q1 _ _ _ p1 ⟨p :: O, rep_new rep i s hp e r⟩⟩⟩
/-- .. its items read off owned lists, without lists in them -/
def dNewW (i : Nat) (f : DF) : DS := fun E ρ => f (peek ρ) fun ds => noLists ds = true ∧ E.nx (ρ.set i (some (.own ds)))
theorem rps_weak {K : PySem.W.Frag} {w : Wd} {H0 H H' : Hp} {kp : List (V × D)} {O : List Addr} {σ : L2.St} {ρ : Env} (rep : Rep K w H0 kp O H σ ρ) {p : Addr} {vs : List V} {ds : List D} (s : Stp w H H') (hp : H p = none) (r : Rps K (off (w.Z ++ p :: []) H') vs ds) (n : noLists ds = true) :
    Rps K (off (w.Z ++ p :: O) H') vs ds := by
  have := r.apart (O := O) (rep.stp s).oS n
  rwa [List.append_assoc] at this
theorem qs_newW (hN : X.N.Nodup) (hi : X.N[i]? = some x) (hx : Loc X.env.scope x) (he : QF X e ff) (hs : swapsWith e (some (.Name x pos')) pos.line X.env = pure false := by rfl) (hf : X.fn x = true ∨ X.env.scope.names.lookup x = some .local := by first | exact .inl rfl | exact .inr rfl | assumption) :
    QS X (.Assign [.Name x pos'] e pos) (dNewW i ff) :=
  ⟨ps_imp (ps_set hN hi hx he.pe hs hf) fun D σ H ⟨w, H0, kp, ρ, E, ⟨O, rep⟩, h, q1, q2, q3, q4⟩ => ⟨w, H0, kp, [], peek ρ, _, rep.peek, h, fun ds p vs H' p1 s hp e r => q1 _ _ _ p1.2 ⟨p :: O, rep_new rep i s hp e (rps_weak rep s hp r p1.1)⟩⟩⟩
/-- name = value without lists, read off owned lists -/
def dSetN (i : Nat) (f : DE) : DS := fun E ρ => f (peek ρ) fun x => noList x = true ∧ E.nx (ρ.set i (some (.d x)))
theorem qs_setN (hN : X.N.Nodup) (hi : X.N[i]? = some x) (hx : Loc X.env.scope x) (he : QE X e fa) (hs : swapsWith e (some (.Name x pos')) pos.line X.env = pure false := by rfl) (hf : X.fn x = true ∨ X.env.scope.names.lookup x = some .local := by first | exact .inl rfl | exact .inr rfl | assumption) :
    QS X (.Assign [.Name x pos'] e pos) (dSetN i fa) :=
  ⟨ps_imp (ps_set hN hi hx he.pe hs hf) fun D σ H ⟨w, H0, kp, ρ, E, ⟨O, rep⟩, h, q1, q2, q3, q4⟩ => rep.peek.go h fun d v H' p st rep' r => q1 _ _ _ p.2 ⟨O, (rep.stp st).setD i (by
    rw [List.append_nil] at r
    exact r.apart (rep.stp st).oS p.1)⟩⟩
/-- name = a fresh list as data, its items read off owned lists -/
def dSetF (i : Nat) (f : DF) : DS := fun E ρ => f (peek ρ) fun ds => noLists ds = true ∧ E.nx (ρ.set i (some (.d (.list ds))))
theorem rp_weak {K : PySem.W.Frag} {w : Wd} {H0 H H' : Hp} {kp : List (V × D)} {O : List Addr} {σ : L2.St} {ρ : Env} (rep : Rep K w H0 kp O H σ ρ) {p : Addr} {vs : List V} {ds : List D} (s : Stp w H H') (hp : H p = none) (e : H' p = some (.lst vs)) (r : Rps K (off (w.Z ++ p :: []) H') vs ds) (n : noLists ds = true) :
    Rp K (off (w.Z ++ O) H') (.ref p) (.list ds) :=
  lst_of (fun z => by
    rcases List.mem_append.mp z with z | z
    · exact w.dom _ rep.r p z hp
    · have := rep.oS p z; rw [hp] at this; exact this) e (rps_weak rep s hp r n)
theorem qs_setF (hN : X.N.Nodup) (hi : X.N[i]? = some x) (hx : Loc X.env.scope x) (he : QF X e ff) (hs : swapsWith e (some (.Name x pos')) pos.line X.env = pure false := by rfl) (hf : X.fn x = true ∨ X.env.scope.names.lookup x = some .local := by first | exact .inl rfl | exact .inr rfl | assumption) :
    QS X (.Assign [.Name x pos'] e pos) (dSetF i ff) :=
  ⟨ps_imp (ps_set hN hi hx he.pe hs hf) fun D σ H ⟨w, H0, kp, ρ, E, ⟨O, rep⟩, h, q1, q2, q3, q4⟩ => ⟨w, H0, kp, [], peek ρ, _, rep.peek, h, fun ds p vs H' p1 s hp e r => q1 _ _ _ p1.2 ⟨O, (rep.stp s).setD i (rp_weak rep s hp e r p1.1)⟩⟩⟩
/-- ghost: the owned list of a slot is frozen ahead of a statement -/
def dFreeze (i : Nat) (t : DS) : DS := fun E ρ => ∃ ds, ρ[i]? = some (some (.own ds)) ∧ t E (ρ.set i (some (.d (.list ds))))
theorem qs_freeze (h : QS X st t) : QS X st (dFreeze i t) :=
  ⟨ps_imp h.ps fun D σ H ⟨w, H0, kp, ρ, E, ⟨O, rep⟩, ⟨ds, e, h⟩, q1, q2, q3, q4⟩ => ⟨w, H0, kp, _, E, rep.freeze e, h, q1, q2, q3, q4⟩⟩
/-- x.append(e) -/
def dApp (i : Nat) (f : DE) : DS := fun E ρ => ∃ ds, ρ[i]? = some (some (.own ds)) ∧ f ρ fun x => ds.length < sizeLine ∧ E.nx (ρ.set i (some (.own (ds ++ [x]))))
/-- .. the item read off owned lists -/
def dAppN (i : Nat) (f : DE) : DS := fun E ρ => ∃ ds, ρ[i]? = some (some (.own ds)) ∧ f (peek ρ) fun x => noList x = true ∧ ds.length < sizeLine ∧ E.nx (ρ.set i (some (.own (ds ++ [x]))))
theorem app_core {K : PySem.W.Frag} {w : Wd} {H0 H : Hp} {kp : List (V × D)} {O : List Addr} {σ : L2.St} {ρ : Env} {ds : List D} {v : V} {d : D} {Q : Hp → Prop} (rep : Rep K w H0 kp O H σ ρ) (hi : ρ[i]? = some (some (.own ds))) (r : Rp K (off (w.Z ++ O) H) v d) (hz : ds.length < sizeLine)
    (q : ∀ p vs, σ[i]? = some (some (.ref p)) → Rep K w H0 kp O (upd H p (.lst (vs ++ [v]))) σ (ρ.set i (some (.own (ds ++ [d])))) → Q (upd H p (.lst (vs ++ [v])))) :
    ∃ p vs, σ[i]? = some (some (.ref p)) ∧ H p = some (.lst vs) ∧ vs.length < sizeLine ∧ Q (upd H p (.lst (vs ++ [v]))) := by
  obtain ⟨u, e1, p, vs, e2, hp, e3, e4⟩ := rep.var i _ hi
  subst e2
  exact ⟨p, vs, e1, e3, by rw [e4.length]; exact hz, q p vs e1 (rep.updO hi e1 (e4.append (Rps.one r)))⟩
theorem qs_app {ap cp np : Pos} (he : QE X e fa) (hN : X.N[i]? = some x := by rfl) (hv : Vis X.env.scope x := by first | exact Or.inl rfl | exact Or.inr (Or.inl rfl) | exact Or.inr (Or.inr rfl)) (hd : (x == ("__debug__" : Str)) = false := by decide)
    (hcd : (x == ("__classdict__" : Str)) = false := by decide)
    (pb : ∀ {t : TA} (ha : PA X [e] t), PE X (.Call (.Attribute (.Name x np) "append" ap) [e] [] cp) (tBM X.K "list" (fun y ys H Q => rAppend y ys H Q) (tVar i) t) := by
      intro t ha; exact pe_bm PySem.F.plainAttrs_list PySem.F.slot_list_append PySem.F.type_list_append mt_append (pv _) ha)
    (hs : swapsWith (.Call (.Attribute (.Name x np) "append" ap) [e] [] cp) none pos.line X.env = pure false := by rfl) (hse : starEach [e] X.env = (false, eval e X.env) :: starEach [] X.env := by rfl) :
    QS X (.Expr (.Call (.Attribute (.Name x np) "append" ap) [e] [] cp) pos) (dApp i fa) :=
  ⟨ps_imp (ps_expr (pb (pa_cons he.pe pa_nil hse)) hs) fun D σ H ⟨w, H0, kp, ρ, E, ⟨O, rep⟩, ⟨ds, hi, h⟩, q1, q2, q3, q4⟩ => by
    obtain ⟨u, e1, p, vs, e2, hp, e3, e4⟩ := rep.var i _ hi
    subst e2
    refine ⟨_, e1, .inl ⟨rfl, _, SqL.of e3⟩, rep.go h fun d v H1 h1 s1 rep1 r1 => ?_⟩
    obtain ⟨p', vs', f1, f2, f3, f4⟩ := app_core (Q := fun H' => D.nx σ H') rep1 hi r1 h1.1 fun p' vs' g1 g2 => q1 _ _ _ h1.2 ⟨O, g2⟩
    rw [e1] at f1; cases f1
    exact ⟨p, vs', v, rfl, rfl, f2, f3, f4⟩⟩
theorem qs_appN {ap cp np : Pos} (he : QE X e fa) (hN : X.N[i]? = some x := by rfl) (hv : Vis X.env.scope x := by first | exact Or.inl rfl | exact Or.inr (Or.inl rfl) | exact Or.inr (Or.inr rfl)) (hd : (x == ("__debug__" : Str)) = false := by decide)
    (hcd : (x == ("__classdict__" : Str)) = false := by decide)
    (pb : ∀ {t : TA} (ha : PA X [e] t), PE X (.Call (.Attribute (.Name x np) "append" ap) [e] [] cp) (tBM X.K "list" (fun y ys H Q => rAppend y ys H Q) (tVar i) t) := by
      intro t ha; exact pe_bm PySem.F.plainAttrs_list PySem.F.slot_list_append PySem.F.type_list_append mt_append (pv _) ha)
    (hs : swapsWith (.Call (.Attribute (.Name x np) "append" ap) [e] [] cp) none pos.line X.env = pure false := by rfl) (hse : starEach [e] X.env = (false, eval e X.env) :: starEach [] X.env := by rfl) :
    QS X (.Expr (.Call (.Attribute (.Name x np) "append" ap) [e] [] cp) pos) (dAppN i fa) :=
  ⟨ps_imp (ps_expr (pb (pa_cons he.pe pa_nil hse)) hs) fun D σ H ⟨w, H0, kp, ρ, E, ⟨O, rep⟩, ⟨ds, hi, h⟩, q1, q2, q3, q4⟩ => by
    obtain ⟨u, e1, p, vs, e2, hp, e3, e4⟩ := rep.var i _ hi
    subst e2
    refine ⟨_, e1, .inl ⟨rfl, _, SqL.of e3⟩, rep.peek.go h fun d v H1 h1 s1 rep1 r1 => ?_⟩
    rw [List.append_nil] at r1
    obtain ⟨p', vs', f1, f2, f3, f4⟩ := app_core (Q := fun H' => D.nx σ H') (rep.stp s1) hi (r1.apart (rep.stp s1).oS h1.1) h1.2.1 fun p' vs' g1 g2 => q1 _ _ _ h1.2.2 ⟨O, g2⟩
    rw [e1] at f1; cases f1
    exact ⟨p, vs', v, rfl, rfl, f2, f3, f4⟩⟩
/-- name = [..] on one line -/
theorem qs_lc {elt tg iter : Expr} {ifs : List Expr} {scope : Scope} {own : List (Str × Nat)} {spos : Pos} {it : DI} {g : DG} {is : List Nat} {tt : DT} {te : DE} (u : DS)
    (hmd : ∀ D σ H, QRS X.K u D σ H → QRF X.K (fComp it g tt te (own.map (·.2))) σ H fun v H1 => D.nx (σ.set i (some v)) H1)
    (hc : X.calm = true) (hN : X.N.Nodup) (hy : X.N[i]? = some x) (hyl : X.env.scope.names.lookup x = some .local)
    (hsw : swapsWith (.ListComp elt [⟨tg, iter, ifs, 0⟩] scope pos) (some (.Name x pos')) spos.line X.env = pure true) (hi : QI X tg iter it) (ok : BlkOk X.N X.env.scope scope own) (his : is.all (fun i => (own.map (·.2)).contains i) = true)
    (hg : ∀ (s : Shared) (H : Hp) (C : Addr) (cl : List (Str × Addr)) (fp : List Addr), QG (X.blk s H scope (compEnvC scope cl C X.env) fp) tg g is) (ht : ∀ (s : Shared) (H : Hp) (C : Addr) (cl : List (Str × Addr)) (fp : List Addr), QTs (X.blk s H scope (compEnvC scope cl C X.env) fp) ifs tt)
    (he : ∀ (s : Shared) (H : Hp) (C : Addr) (cl : List (Str × Addr)) (fp : List Addr), QE (X.blk s H scope (compEnvC scope cl C X.env) fp) elt te) (hs : ∀ x, foldedSetIterable iter X.env x = pure x := by intro _; rfl) :
    QS X (.Assign [.Name x pos'] (.ListComp elt [⟨tg, iter, ifs, 0⟩] scope pos) spos) u :=
  ⟨ps_imp (ps_setLc hc hN hy hyl hsw hi.pi ok (fun s H C cl fp => (hg s H C cl fp).pg) (fun s H C cl fp => (ht s H C cl fp).pts) (fun s H C cl fp => (he s H C cl fp).pe) hs) fun D σ H h => tLc_F his (hmd D σ H h)⟩
end
section
variable {K : PySem.W.Frag} {i : Nat} {f : DF} {D : Ends} {σ : L2.St} {H : Hp}
/-- the ways to store a fresh list: as data, as data read off owned ones, as an owned one, .. -/
def dSetL (i : Nat) (f : DF) : DS := fun E ρ => f ρ fun ds => E.nx (ρ.set i (some (.d (.list ds))))
theorem md_set (h : QRS K (dSetL i f) D σ H) : QRF K f σ H fun v H1 => D.nx (σ.set i (some v)) H1 := by
  obtain ⟨w, H0, kp, ρ, E, ⟨O, rep⟩, h, q1, _⟩ := h
  exact ⟨w, H0, kp, O, ρ, _, rep, h, fun ds p vs H' p1 s hp e r => q1 _ _ _ p1 ⟨O, (rep.stp s).setD i (lst_of (fun z => by
    rcases List.mem_append.mp z with z | z
    · exact w.dom _ rep.r p z hp
    · have := rep.oS p z; rw [hp] at this; exact this) e r)⟩⟩
theorem md_setF (h : QRS K (dSetF i f) D σ H) : QRF K f σ H fun v H1 => D.nx (σ.set i (some v)) H1 := by
  obtain ⟨w, H0, kp, ρ, E, ⟨O, rep⟩, h, q1, _⟩ := h
  exact ⟨w, H0, kp, [], peek ρ, _, rep.peek, h, fun ds p vs H' p1 s hp e r => q1 _ _ _ p1.2 ⟨O, (rep.stp s).setD i (rp_weak rep s hp e r p1.1)⟩⟩
theorem md_new (h : QRS K (dNew i f) D σ H) : QRF K f σ H fun v H1 => D.nx (σ.set i (some v)) H1 := by
  obtain ⟨w, H0, kp, ρ, E, ⟨O, rep⟩, h, q1, _⟩ := h
  exact ⟨w, H0, kp, O, ρ, _, rep, h, fun ds p vs H' p1 s hp e r => q1 _ _ _ p1 ⟨p :: O, rep_new rep i s hp e r⟩⟩
theorem md_newW (h : QRS K (dNewW i f) D σ H) : QRF K f σ H fun v H1 => D.nx (σ.set i (some v)) H1 := by
  obtain ⟨w, H0, kp, ρ, E, ⟨O, rep⟩, h, q1, _⟩ := h
  exact ⟨w, H0, kp, [], peek ρ, _, rep.peek, h, fun ds p vs H' p1 s hp e r => q1 _ _ _ p1.2 ⟨p :: O, rep_new rep i s hp e (rps_weak rep s hp r p1.1)⟩⟩
end
end Dw

namespace Dw
open PySem PySem.Spec PyProof.Rows L2

theorem hu_room {k : Nat} {A : Around} (r : Room k A) : A.units + 102 < cLine := by have := r.un; omega
theorem hu1_room {k : Nat} {A : Around} (r : Room k A) : A.units + 101 < cLine := by have := r.un; omega
section
variable {X : Cx} {tg a b c e : Expr} {fa fb fc : DE} {pos : Pos}
/-- a list or a tuple, walked -/
def dSeqI (fa : DE) : DI := fun ρ P => fa ρ fun x => match x with | .list ds => P ds | .tuple ds => P ds | _ => False
theorem qi_seq (ha : QE X a fa) : QI X tg a (dSeqI fa) := by
  refine ⟨⟨fun pins s σ H R I h => ?_⟩⟩
  obtain ⟨w, H0, kp, O, ρ, P, rep, h, q⟩ := h
  refine one1 ha I rep h fun v s1 x H1 dx I1 r1 st rep1 rp h1 => ?_
  cases dx <;> simp only at h1
  · obtain ⟨l, xs, rfl, e1, r⟩ := rp.list_inv
    cases r1
    obtain ⟨its, rv, pl, hz⟩ := I1.list (SqL.of (off_some.mp e1).2)
    refine wpAny_pyIter_list pl.isList ?_
    refine ⟨s1.heap.objs.size, [s1.heap.objs.size], _, _, H1, rfl, I1.kept (t' := s1.toks) fun b o e => Heap.get?_push_of_some _ e, turn_list l _, ⟨_, Heap.get?_push_size _ rfl, rfl, rfl⟩, fun b hb => ?_,
      q _ _ _ _ h1 st (fun p hp => by rw [List.mem_singleton.mp hp]; exact rp) (isL l _)⟩
    have e : b = s1.heap.objs.size := by simpa using hb
    subst e
    exact I1.fpOk (Nat.le_refl _) (I1.hok.fresh (Nat.le_refl _))
  · obtain ⟨l, xs, rfl, e1, r⟩ := rp.tup_inv
    cases r1
    obtain ⟨its, rv, pl, hz⟩ := I1.tuple (sqT_off e1)
    refine wpAny_pyIter_tuple (show s1.heap.IsTuple l its.toArray from pl) ?_
    refine ⟨s1.heap.objs.size, [s1.heap.objs.size], _, _, H1, rfl, I1.kept (t' := s1.toks) fun b o e => Heap.get?_push_of_some _ e, turn_tuple l _, ⟨_, Heap.get?_push_size _ rfl, rfl, rfl⟩, fun b hb => ?_,
      q _ _ _ _ h1 st (fun p hp => by rw [List.mem_singleton.mp hp]; exact rp) (isT l _)⟩
    have e : b = s1.heap.objs.size := by simpa using hb
    subst e
    exact I1.fpOk (Nat.le_refl _) (I1.hok.fresh (Nat.le_refl _))
/-- a op1 b op2 c -/
def dChain (g g' : G2) (fa fb fc : DE) : DE := fun ρ P => fa ρ fun x => fb ρ fun y => g x y fun z => ∃ k, z = .bool k ∧ if k = true then fc ρ fun u => g' y u P else P (.bool false)
theorem qe_chain {op op' : CmpOp} {g g' : G2} (ho : OpD X (compareOp op) g) (ho' : OpD X (compareOp op') g') (ha : QE X a fa) (hb : QE X b fb) (hc : QE X c fc)
    (hm : lastMarks [op, op'] [b, c] = false := by with_unfolding_all rfl) : QE X (.Compare a [op, op'] [b, c] pos) (dChain g g' fa fb fc) := by
  refine ⟨⟨fun pins s σ H Q I h => ?_⟩⟩
  obtain ⟨w, H0, kp, O, ρ, P, rep, h, q⟩ := h
  refine Compare_chain (one1 ha I rep h fun v s1 x H1 dx I1 r1 st1 rep1 rx h1 => chain_link (one1 hb I1 rep1 h1 fun u s2 y H2 dy I2 r2 st2 rep2 ry h2 => ?_)) hm
  refine thn (ho pins s2 σ H2 x y v u w O dx dy _ (fun v' H' => ∃ k, v' = .bl k ∧ Stp w H2 H' ∧ if k = true then fc ρ fun u => g' dy u P else P (.bool false)) I2 r1 r2 rep2.wok (rx.mono (rep1.off st2)) ry h2 fun d v' H' p s r => ?_) fun cv s3 ⟨z, H3, I3, r3, k, e, st3, p3⟩ => ?_
  · obtain ⟨k, rfl, p⟩ := p
    exact ⟨k, r.bool_inv, s, p⟩
  · subst e
    cases r3
    have rep3 := rep2.stp st3
    refine wpAny_truthy_bool ?_
    cases k with
    | false =>
      simp only [Bool.false_eq_true, if_false] at p3
      exact ite_ff ⟨.bl false, H3, I3, rfl, q _ _ _ p3 ((st1.trans st2).trans st3) (.bl _)⟩
    | true =>
      simp only [if_true] at p3
      exact ite_tt (chain_last (one1 hc I3 rep3 p3 fun w' s4 z' H4 dz I4 r4 st4 rep4 rz h4 => ho' pins s4 σ H4 y z' u w' w O dy dz P Q I4 r2 r4 rep4.wok (ry.mono ((rep2.off st3).trans (rep3.off st4))) rz h4 fun d v H' p s r => q d v H' p ((((st1.trans st2).trans st3).trans st4).trans s) r))
theorem qt_chain {op op' : CmpOp} {g g' : G2} (ho : OpD X (compareOp op) g) (ho' : OpD X (compareOp op') g') (ha : QE X a fa) (hb : QE X b fb) (hc : QE X c fc)
    (hm : lastMarks [op, op'] [b, c] = false := by with_unfolding_all rfl) : QT X (.Compare a [op, op'] [b, c] pos) (dTest (dChain g g' fa fb fc)) := by
  refine ⟨⟨fun pins s σ H Q I h => ?_⟩⟩
  obtain ⟨w, H0, kp, O, ρ, P, rep, h, q⟩ := h
  refine isTrue_chain (one1 ha I rep h fun v s1 x H1 dx I1 r1 st1 rep1 rx h1 => test_link (one1 hb I1 rep1 h1 fun u s2 y H2 dy I2 r2 st2 rep2 ry h2 => ?_)) hm
  refine thn (ho pins s2 σ H2 x y v u w O dx dy _ (fun v' H' => ∃ k, v' = .bl k ∧ Stp w H2 H' ∧ if k = true then fc ρ fun u => g' dy u fun x => ∃ k, x = .bool k ∧ P k else ∃ k, PyData.bool false = .bool k ∧ P k) I2 r1 r2 rep2.wok (rx.mono (rep1.off st2)) ry h2 fun d v' H' p s r => ?_) fun cv s3 ⟨z, H3, I3, r3, k, e, st3, p3⟩ => ?_
  · obtain ⟨k, rfl, p⟩ := p
    exact ⟨k, r.bool_inv, s, p⟩
  · subst e
    cases r3
    have rep3 := rep2.stp st3
    refine wpAny_truthy_bool ?_
    cases k with
    | false =>
      simp only [Bool.false_eq_true, if_false] at p3
      obtain ⟨k', e', p'⟩ := p3
      cases e'
      exact ite_ff ⟨H3, I3, q _ _ p' ((st1.trans st2).trans st3)⟩
    | true =>
      simp only [if_true] at p3
      refine ite_tt (test_last (one1 hc I3 rep3 p3 fun w' s4 z' H4 dz I4 r4 st4 rep4 rz h4 => ?_))
      refine thn (ho' pins s4 σ H4 y z' u w' w O dy dz _ (fun v' H' => ∃ k, v' = .bl k ∧ Stp w H4 H' ∧ P k) I4 r2 r4 rep4.wok (ry.mono ((rep2.off st3).trans (rep3.off st4))) rz h4 fun d v' H' p s r => ?_) fun c2 s5 ⟨z2, H5, I5, r5, k, e, st5, p5⟩ => ?_
      · obtain ⟨k, rfl, p⟩ := p
        exact ⟨k, r.bool_inv, s, p⟩
      · subst e
        cases r5
        exact wpAny_truthy_bool ⟨H5, I5, q _ _ p5 ((((st1.trans st2).trans st3).trans st4).trans st5)⟩
end
end Dw

namespace Dw
open PySem PySem.Spec PyProof.Rows L2

section
variable {P : Program} {w : World} {K : PySem.W.Frag} {mg : Str → Option Value} {base : Heap}
/-- a def by its body -/
theorem fn_dataD {x qual : Str} {st : Stmt} {f : Addr} {fd : FuncData} {N ps : List Str} {k : Nat} {t : DS} (F : FunD K x qual (defArgs st) (defBody st) (defScope st) [] [] f fd) (S : FnScope N ps (defScope st))
    (hbody : ∀ (cdv : Value) (A : Around) (outer : List PySem.Env) (s : Shared) (H : Hp) (E : XK), Room k (A.deeper (envOfC qual (defScope st) s.heap.objs.size f cdv)) →
      QSs (cxOf CX0 P w K mg base N qual (defScope st) f cdv A outer s H E).nox (defBody st) t) : FnOk P w K mg base CX0 (k + 1) f fd ps (spD K ps.length (wpOf N.length t)) := by
  refine F.ok S (fun vs H Q E h => h.1) fun cdv A outer s H vs Q E hr h => ⟨_, (hbody cdv A outer s H E hr).pss.nox, ?_⟩
  obtain ⟨hl, w, es, P, r, er, hw, q⟩ := h
  have hpl : ps.length ≤ N.length := by have := congrArg List.length S.pre; rw [List.length_take] at this; omega
  exact ⟨w, H, [], startE N.length es, { nx := fun _ => P .none, rt := P }, ⟨[], start_rep r er (by rw [hl]; exact hpl)⟩, hw,
    fun ρ' σ' H' p ⟨O, rep⟩ => q .none .non H' p ⟨rep.s0, rep.r⟩ .non, fun _ _ _ p _ => p.elim, fun _ _ _ p _ => p.elim, fun d v H' p s r rp => q d v H' p ⟨s, r⟩ rp⟩
end
section
variable {X : Cx} {a b e : Expr} {fa fb : DE} {pos : Pos}
theorem qe_gint {x : Str} {i : Int} (hg : Gl X x) (hm : ∃ t, X.mg x = some (.int i t)) (hd : (x == ("__debug__" : Str)) = false := by decide) : QE X (.Name x pos) (dC (.int i)) := by
  obtain ⟨t, hm⟩ := hm
  exact qe_glob hg hm (v := .int i) ⟨t, rfl⟩ (fun _ => .int i) hd
/-- list(range(a)), list(range(a, b)) -/
def dListR1 (fa : DE) : DE := fun ρ P => fa ρ fun x => ∃ n, x = .int n ∧ (0 ≤ n ∧ n ≤ 16777216) ∧ P (.list (rngD 0 n))
theorem rps_rng {K : PySem.W.Frag} {H : Hp} (a b : Int) : Rps K H (rgV a b) (rngD a b) := by
  unfold rgV rngD
  have : ∀ l : List Nat, Rps K H (l.map fun i => V.int (a + (i : Nat))) (l.map fun i => PyData.int (a + (i : Nat))) := by
    intro l
    induction l with
    | nil => exact .nil
    | cons x xs ih => exact .cons (.int _) ih
  exact this _
theorem qe_listR1 {p q : Pos} (hc : X.calm = true) (hg : Gl X "list") (hm : X.mg "list" = none) (hg2 : Gl X "range") (hm2 : X.mg "range" = none) (ha : QE X a fa) (na : starEach [a] X.env = (false, eval a X.env) :: starEach [] X.env := by rfl)
    (nb : starEach [.Call (.Name "range" q) [a] [] pos] X.env = (false, eval (.Call (.Name "range" q) [a] [] pos) X.env) :: starEach [] X.env := by rfl) {pos' : Pos} :
    QE X (.Call (.Name "list" p) [.Call (.Name "range" q) [a] [] pos] [] pos') (dListR1 fa) :=
  ⟨pe_imp (pe_listRg hc hg hm (prg_1 hg2 hm2 ha.pe na) nb) fun σ H Q ⟨w, H0, kp, O, ρ, P, rep, h, q⟩ => rep.go h fun d v H1 ⟨n, e, hn, h1⟩ s1 rep1 r1 => by
    subst e
    exact ⟨n, r1.int_inv, RgOk.of_le (by omega) hn.2 (by omega) hn.1, fun l hl => q _ _ _ h1 (s1.trans (Stp.laid rep1.r hl)) (rep1.wok.lst hl (rps_rng 0 n))⟩⟩
def dListR2 (fa fb : DE) : DE := fun ρ P => fa ρ fun x => fb ρ fun y => ∃ m n, x = .int m ∧ y = .int n ∧ (0 ≤ m ∧ m ≤ 16777216 ∧ 0 ≤ n ∧ n ≤ 16777216) ∧ P (.list (rngD m n))
theorem qe_listR2 {p q : Pos} (hc : X.calm = true) (hg : Gl X "list") (hm : X.mg "list" = none) (hg2 : Gl X "range") (hm2 : X.mg "range" = none) (ha : QE X a fa) (hb : QE X b fb) (na : starEach [a, b] X.env = (false, eval a X.env) :: starEach [b] X.env := by rfl)
    (nb0 : starEach [b] X.env = (false, eval b X.env) :: starEach [] X.env := by rfl) (np : (backTo pos (starEach [b] X.env)).any (·.1) = false := by rfl)
    (nb : starEach [.Call (.Name "range" q) [a, b] [] pos] X.env = (false, eval (.Call (.Name "range" q) [a, b] [] pos) X.env) :: starEach [] X.env := by rfl) {pos' : Pos} :
    QE X (.Call (.Name "list" p) [.Call (.Name "range" q) [a, b] [] pos] [] pos') (dListR2 fa fb) :=
  ⟨pe_imp (pe_listRg hc hg hm (prg_2 hg2 hm2 ha.pe hb.pe na nb0 np) nb) fun σ H Q ⟨w, H0, kp, O, ρ, P, rep, h, q⟩ => rep.go h fun d v H1 h1 s1 rep1 r1 => rep1.go h1 fun d2 v2 H2 ⟨m, n, e, e2, hn, h2⟩ s2 rep2 r2 => by
    subst e; subst e2
    exact ⟨m, n, r1.int_inv, r2.int_inv, RgOk.of_le hn.1 hn.2.2.2 hn.2.1 hn.2.2.1, fun l hl => q _ _ _ h2 ((s1.trans s2).trans (Stp.laid rep2.r hl)) (rep2.wok.lst hl (rps_rng m n))⟩⟩
end

/-! ### the law's state -/
section
variable {P : Program} {w : World} {K : PySem.W.Frag} {mg : Str → Option Value} {base : Heap}
def wpTake : Sd := fun es P => ∃ m : Int, es = [.st, .d (.int m)] ∧ m < 2 ^ 62 ∧ ∀ r : D, (∃ i : Int, r = .int i ∧ 0 ≤ i ∧ i < max m 1) → P r
/-- the world of the law's own state -/
def lawWd (a c : Addr) : Wd where
  Z := [a, c]
  st := a
  R := fun H => ∃ i ns, StOk H a c i ns
  fr := fun H H' ⟨i, ns, h⟩ e => ⟨i, ns, h.i0, h.ne, h.n0, h.len, (e a (by simp)).trans h.ha, (e c (by simp)).trans h.hc⟩
  dom := fun H ⟨i, ns, h⟩ b hb => by
    rcases List.mem_cons.mp hb with rfl | hb
    · rw [h.ha]; simp
    · rcases List.mem_cons.mp hb with rfl | hb
      · rw [h.hc]; simp
      · cases hb
theorem lawWd_st (a c : Addr) : StW (lawWd a c) := ⟨fun H ⟨i, ns, h⟩ => by
  have hac := h.ac
  refine ⟨c, i, ns, h, by simp [lawWd], by simp [lawWd], fun i' h0 => ⟨i', ns, h0, h.ne, h.n0, h.len, upd_same, ?_⟩, fun ns' a1 a2 a3 => ⟨i, ns', h.i0, a1, a2, a3, ?_, upd_same⟩⟩
  · show upd H a _ c = _
    rw [upd_ne (show c ≠ a from fun e => hac e.symm)]; exact h.hc
  · rw [upd_ne hac]; exact h.ha⟩
/-- what _law_state gives -/
def spState (K : PySem.W.Frag) : Sp := fun vs H Q _ => ∃ (s : Addr) (ns : List Int), vs = [.ref s] ∧ SqL K H s (ns.map V.int) ∧ ns.length ≤ 63 ∧
  ∀ a c H', H a = none → H c = none → Same H H' → (lawWd a c).R H' → Q (.ref a) H'
/-- the law's promise -/
def spLaw (K : PySem.W.Frag) : Sp := fun vs H Q _ => ∃ (s : Addr) (ns : List Int), vs = [.ref s] ∧ SqL K H s (ns.map V.int) ∧ ns.length ≤ 63 ∧ ∀ H', Q (.bl true) H'
end
end Dw

namespace Dw
open PySem PySem.Spec PyProof.Rows L2

/-! ### the law as a whole -/
section
variable {P : Program} {w : World} {K : PySem.W.Frag} {mg : Str → Option Value} {base : Heap}
theorem fn_law {st : Stmt} {f fS : Addr} {fd fdS : FuncData} {N : List Str} {k slot : Nat} {t : DS} {rest : List Stmt} {p1 p2 p3 p4 p5 : Pos} (F : FunD K "law" "law" (defArgs st) (defBody st) (defScope st) [] [] f fd) (S : FnScope N ["script"] (defScope st))
    (hb : defBody st = .Assign [.Name "state" p1] (.Call (.Name "_law_state" p2) [.Name "script" p3] [] p4) p5 :: rest) (hi : N[slot]? = some ("state" : Str)) (h0 : 1 ≤ slot) (GS : FnOk P w K mg base CX0 1 fS fdS ["script"] (spState K))
    (hgl : (defScope st).names.lookup ("_law_state" : Str) = some .globalImplicit) (hm : mg "_law_state" = some (.ref fS)) (hk : PySem.W.keepIn K (.ref fS) = true) (hbS : Binds K fdS ["script"] [])
    (hloc : (defScope st).names.lookup ("state" : Str) = some .local ∨ (defScope st).names.lookup ("state" : Str) = some .cell)
    (hbody : ∀ (cdv : Value) (A : Around) (outer : List PySem.Env) (s : Shared) (H : Hp) (E : XK), Room (k + 1) (A.deeper (envOfC "law" (defScope st) s.heap.objs.size f cdv)) →
      QSs (cxOf CX0 P w K mg base N "law" (defScope st) f cdv A outer s H E).nox rest t)
    (hlaw : t { nx := fun _ => False, rt := fun d => d = .bool true } ((List.replicate N.length none).set slot (some .st))) : FnOk P w K mg base CX0 (k + 2) f fd ["script"] (spLaw K) := by
  refine F.ok S (fun vs H Q E h => by obtain ⟨a, ns, rfl, _⟩ := h; rfl) fun cdv A outer s H vs Q E hr h => ⟨tSeq (tAsg (tCall (spState K) [] E0 (tCons (tVar 0) tNil)) (gName slot)) (QRS K t), PSs.nox ?_, ?_⟩
  · rw [hb]
    have hN0 : N[0]? = some ("script" : Str) := by
      have := S.pre
      cases N with
      | nil => simp at this
      | cons a b => simp at this; simp [this]
    have hvs : Vis (defScope st) ("script" : Str) := by
      rcases S.par "script" (by simp) with z | z
      · exact .inl z
      · exact .inr (.inl z)
    exact pss_cons (ps_set (i := slot) S.nd hi hloc (pe_call GS (hr.mono (by omega)) hgl hm hk hbS .nil pass0 (pa_cons (pe_var (i := 0) hN0 hvs) pa_nil))) (hbody cdv A outer s H E hr).pss
  · obtain ⟨sa, ns, rfl, hS, hl, q⟩ := h
    refine ⟨.ref sa, ?_, ?_⟩
    · have : (N.length - 1) + 1 = N.length := by have := (List.getElem?_eq_some_iff.mp hi).1; omega
      unfold L2.start
      simp
    · refine ⟨sa, ns, rfl, hS, hl, fun a c H' ha hc hsame hR => ?_⟩
      have hlen : slot < N.length := (List.getElem?_eq_some_iff.mp hi).1
      refine ⟨lawWd a c, H', [], (List.replicate N.length none).set slot (some .st), _, ⟨[], hR, fun _ _ e => e, fun b hb => by simp at hb, fun b hb => by simp at hb, fun p hp => by simp at hp, ?_, fun i e h => ?_, fun i j ds es v _ h1 => ?_⟩, hlaw,
        fun _ _ _ z _ => z.elim, fun _ _ _ z _ => z.elim, fun _ _ _ z _ => z.elim, fun d v H2 e _ _ r => ?_⟩
      · simp [L2.start]; omega
      · by_cases hj : slot = i
        · subst hj
          rw [List.getElem?_set_self (by simpa using hlen)] at h
          cases h
          exact ⟨.ref a, by rw [List.getElem?_set_self]; simp [L2.start]; omega, rfl, lawWd_st a c⟩
        · rw [List.getElem?_set_ne hj, List.getElem?_replicate] at h
          split at h <;> cases h
      · by_cases hj : slot = i
        · subst hj
          rw [List.getElem?_set_self (by simpa using hlen)] at h1
          cases h1
        · rw [List.getElem?_set_ne hj, List.getElem?_replicate] at h1
          split at h1 <;> cases h1
      · subst e
        rw [r.bool_inv]; exact q H2
end

/-! ### two names, one of them given an owned list -/
inductive MItem where
  | d (x : D)
  | own (ds : List D)
abbrev DM := Env → (List MItem → Prop) → Prop
def mEnt : MItem → Ent
  | .d x => .d x
  | .own ds => .own ds
def QRM (K : PySem.W.Frag) (f : DM) : TA := fun σ H Q => ∃ (w : Wd) (H0 : Hp) (kp : List (V × D)) (O : List Addr) (ρ : Env) (P : List MItem → Prop), Rep K w H0 kp O H σ ρ ∧ f ρ P ∧
  ∀ ms vs H' O', P ms → Stp w H H' → Rep K w H0 kp O' H' σ ρ → Same (off (w.Z ++ O) H) (off (w.Z ++ O') H') → (∀ a ∈ O, a ∈ O') → EntsR K w O' H' vs (ms.map mEnt) →
    (∀ (i : Nat) (p : Addr) (ds : List D), vs[i]? = some (.ref p) → ms[i]? = some (.own ds) → H p = none) →
    (∀ (i j : Nat) (p : Addr) (ds es : List D), i ≠ j → vs[i]? = some (.ref p) → ms[i]? = some (.own ds) → ms[j]? = some (.own es) → vs[j]? ≠ some (.ref p)) → Q vs H'
structure QM (X : Cx) (es : List Expr) (f : DM) : Prop where
  pa : PA X es (QRM X.K f)
def mNil : DM := fun _ P => P []
def mConsD (f : DE) (g : DM) : DM := fun ρ P => f ρ fun x => g ρ fun xs => P (.d x :: xs)
def mConsF (f : DF) (g : DM) : DM := fun ρ P => f ρ fun ds => g ρ fun xs => P (.own ds :: xs)
section
variable {X : Cx} {e : Expr} {es : List Expr} {fa : DE} {ff : DF} {fm : DM} {pos : Pos}
theorem qm_nil : QM X [] mNil := ⟨pa_imp pa_nil fun σ H Q ⟨w, H0, kp, O, ρ, P, rep, h, q⟩ => q _ _ _ O h (Stp.refl rep.r) rep (fun _ _ e => e) (fun _ h => h) .nil (fun i p ds h => by simp at h) (fun i j p ds es _ h => by simp at h)⟩
theorem qm_consD (ha : QE X e fa) (hr : QM X es fm) (hs : starEach (e :: es) X.env = (false, eval e X.env) :: starEach es X.env := by rfl) : QM X (e :: es) (mConsD fa fm) :=
  ⟨pa_imp (pa_cons ha.pe hr.pa hs) fun σ H Q ⟨w, H0, kp, O, ρ, P, rep, h, q⟩ => rep.go h fun d v H1 h1 s1 rep1 r1 => ⟨w, H0, kp, O, ρ, _, rep1, h1, fun ms vs H2 O2 p2 s2 rep2 so sub en f1 f2 =>
    q _ _ _ O2 p2 (s1.trans s2) rep2 ((rep.off s1).trans so) sub (.cons (r1.mono so) en) (fun i p ds a b => by
      cases i with
      | zero => simp at b
      | succ i => exact s1.none rep1.r (f1 i p ds (by simpa using a) (by simpa using b))) (fun i j p ds es' hne a b c => by
      cases i with
      | zero => simp at b
      | succ i => cases j with
        | zero => simp at c
        | succ j => exact fun z => f2 i j p ds es' (by omega) (by simpa using a) (by simpa using b) (by simpa using c) (by simpa using z))⟩⟩
theorem qm_consF (ha : QF X e ff) (hr : QM X es fm) (hs : starEach (e :: es) X.env = (false, eval e X.env) :: starEach es X.env := by rfl) : QM X (e :: es) (mConsF ff fm) :=
  ⟨pa_imp (pa_cons ha.pe hr.pa hs) fun σ H Q ⟨w, H0, kp, O, ρ, P, rep, h, q⟩ => ⟨w, H0, kp, O, ρ, _, rep, h, fun ds p vs H1 h1 s1 hp e1 r1 => by
    have rep1 := rep.grow s1 hp (by rw [e1]; exact True.intro)
    refine ⟨w, H0, kp, p :: O, ρ, _, rep1, h1, fun ms us H2 O2 p2 s2 rep2 so sub en f1 f2 => ?_⟩
    have hpZ : p ∉ w.Z := (rep1.o0 p List.mem_cons_self).2
    have e2 : H2 p = some (.lst vs) := (off_some.mp (s2.s p _ (off_some.mpr ⟨hpZ, e1⟩))).2
    have so1 : Same (off (w.Z ++ O) H) (off (w.Z ++ p :: O) H1) := fun b x e => by
      have e' := rep.off s1 b x e
      rw [off_some] at e e' ⊢
      refine ⟨fun z => ?_, e'.2⟩
      rcases List.mem_append.mp z with z | z
      · exact e.1 (List.mem_append_left _ z)
      · rcases List.mem_cons.mp z with z | z
        · rw [z, hp] at e; cases e.2
        · exact e.1 (List.mem_append_right _ z)
    refine q _ _ _ O2 p2 (s1.trans s2) rep2 (so1.trans so) (fun a ha => sub a (List.mem_cons_of_mem _ ha)) (.cons ⟨p, vs, rfl, sub p List.mem_cons_self, e2, r1.mono so⟩ en) (fun i p' ds' a b => ?_) (fun i j p' ds' es' hne a b c => ?_)
    · cases i with
      | zero => simp at a; subst a; exact hp
      | succ i => exact s1.none rep1.r (f1 i p' ds' (by simpa using a) (by simpa using b))
    · cases i with
      | zero =>
        simp at a; subst a
        cases j with
        | zero => exact absurd rfl hne
        | succ j =>
          intro z
          have := f1 j p es' (by simpa using z) (by simpa using c)
          rw [e1] at this; cases this
      | succ i => cases j with
        | zero =>
          intro z
          simp at z
          subst z
          have := f1 i p ds' (by simpa using a) (by simpa using b)
          rw [e1] at this; cases this
        | succ j => exact fun z => f2 i j p' ds' es' (by omega) (by simpa using a) (by simpa using b) (by simpa using c) (by simpa using z)⟩⟩
theorem Rep.setM {K : PySem.W.Frag} {w : Wd} {H0 H : Hp} {kp : List (V × D)} {O : List Addr} {σ : L2.St} {ρ : Env} (rep : Rep K w H0 kp O H σ ρ) (i : Nat) {v : V} {m : MItem} (r : EntR K w O H v (mEnt m))
    (no : ∀ (p : Addr) (ds : List D), v = .ref p → m = .own ds → ∀ (j : Nat) (es : List D), j ≠ i → ρ[j]? = some (some (.own es)) → σ[j]? ≠ some (some (.ref p))) : Rep K w H0 kp O H (σ.set i (some v)) (ρ.set i (some (mEnt m))) := by
  cases m with
  | d x => exact rep.setD i r
  | own ds =>
    obtain ⟨p, vs, rfl, hp, e, rs⟩ := r
    exact rep.setO i hp e rs (no p ds rfl rfl)
def dParM (i j : Nat) (f : DM) : DS := fun E ρ => f ρ fun xs => match xs with
  | [x, y] => E.nx ((ρ.set i (some (mEnt x))).set j (some (mEnt y)))
  | _ => False
theorem qs_parM {i j : Nat} {x y : Str} {a b : Expr} {px py pt : Pos} {kt k2 pt2} (hc : X.calm = true) (hN : X.N.Nodup) (hi : X.N[i]? = some x) (hj : X.N[j]? = some y) (hij : i ≠ j)
    (hx : X.env.scope.names.lookup x = some .local) (hy : X.env.scope.names.lookup y = some .local) (ha : QM X [a, b] fm)
    (hw : swappedStores [.Tuple [.Name x px, .Name y py] kt pt] (.Tuple [a, b] k2 pt2) X.env = pure (some [x, y]))
    (hs : swapsWithSole [.Tuple [.Name x px, .Name y py] kt pt] (.Tuple [a, b] k2 pt2) pos.line X.env = pure false := by rfl) :
    QS X (.Assign [.Tuple [.Name x px, .Name y py] kt pt] (.Tuple [a, b] k2 pt2) pos) (dParM i j fm) :=
  ⟨ps_imp (ps_par hc hN hi hj hij hx hy ha.pa hw hs) fun D σ H ⟨w, H0, kp, ρ, E, ⟨O, rep⟩, h, q1, q2, q3, q4⟩ => ⟨w, H0, kp, O, ρ, _, rep, h, fun ms vs H' O' pq st rep' so sub en f1 f2 => by
    split at pq
    · rename_i m1 m2
      cases en with
      | cons en1 en =>
        cases en with
        | cons en2 en =>
          cases en
          rename_i v u
          refine ⟨v, u, rfl, q1 _ _ _ pq ⟨O', ?_⟩⟩
          have fr : ∀ (p : Addr), H p = none → ∀ (j : Nat) (es : List Dw.D), ρ[j]? = some (some (.own es)) → σ[j]? ≠ some (some (.ref p)) := fun p hp j es h1 h2 => by
            obtain ⟨v', g1, a', ws, g2, g3, g4, g5⟩ := rep.var j _ h1
            rw [h2] at g1; cases g1; cases g2
            rw [hp] at g4; cases g4
          have r1 := rep'.setM i en1 (fun p ds e1 e2 j es _ h1 => by subst e1 e2; exact fr p (f1 0 p ds rfl rfl) j es h1)
          refine r1.setM j en2 (fun p ds e1 e2 j' es hne h1 => ?_)
          subst e1 e2
          have hp := f1 1 p ds rfl rfl
          by_cases hji : i = j'
          · subst hji
            have hlt : i < ρ.length := by
              rw [rep.len, ]
              by_cases z : i < σ.length
              · exact z
              · rw [List.getElem?_eq_none (by simp [rep.len]; omega)] at h1; cases h1
            rw [List.getElem?_set_self hlt] at h1
            rw [List.getElem?_set_self (by rw [← rep.len]; exact hlt)]
            intro z
            cases z
            cases m1 with
            | d x => simp [mEnt] at h1
            | own es' => exact f2 0 1 p es' ds (by decide) rfl rfl rfl rfl
          · rw [List.getElem?_set_ne hji] at h1
            rw [List.getElem?_set_ne hji]
            exact fr p hp j' es h1
    · exact pq.elim⟩⟩
end
end Dw

namespace Dw
open PySem PySem.Spec PyProof.Rows L2
section
variable {X : Cx} {a b e : Expr} {fa fb : DE} {pos : Pos}
theorem firstMet_nd (val : Nat → Int) : ∀ i, (PyProof.Rows.firstMet val i).Nodup
  | 0 => List.nodup_nil
  | i + 1 => by
    rw [PyProof.Rows.firstMet_succ]
    have ih := firstMet_nd val i
    unfold PyProof.Rows.step_dedup
    split
    · exact ih
    · rename_i h
      rw [List.nodup_append]
      refine ⟨ih, by simp, fun a ha b hb e => h ?_⟩
      rw [List.mem_singleton] at hb
      subst hb; subst e
      exact List.any_eq_true.mpr ⟨_, ha, beq_self_eq_true _⟩
def tLenSetD (K : PySem.W.Frag) (ta : TE) : TE := fun σ H Q => ta σ H fun x H1 => ∃ (l : Addr) (ns : List Int), x = .ref l ∧ (SqL K H1 l (ns.map V.int) ∨ SqT K H1 l (ns.map V.int)) ∧ ns.length ≤ 4000 ∧ ∀ ms : List Int, ms.Nodup → (∀ k, k ∈ ms ↔ k ∈ ns) → Q (.int (ms.length : Nat)) H1
theorem pe_lenSetD {a : Expr} {ta : TE} {p p2 q pos : Pos} (hg : Gl X "len") (hm : X.mg "len" = none) (hg2 : Gl X "set") (hm2 : X.mg "set" = none) (ha : PE X a ta) (hc : X.calm = true := by rfl)
    (na : starEach [a] X.env = (false, eval a X.env) :: starEach [] X.env := by rfl) : PE X (.Call (.Name "len" p) [.Call (.Name "set" p2) [a] [] q] [] pos) (tLenSetD X.K ta) :=
  ⟨fun pins s σ H Q J h => by
    refine Call_ (ld_blt J hg hm boot_len (PyProof.Rows.callWith_builtin1 (PyProof.Rows.args_cons (Call_ (ld_blt J hg2 hm2 boot_set ?_)) rfl) rfl rfl))
    refine PyProof.Rows.callWith_type1 (PyProof.Rows.args_cons (thn (ha.run pins s σ H _ J h) fun v s1 ⟨x, H1, J1, r1, l, ns, ex, hq, hl, q1⟩ => PyProof.Rows.args_nil ?_) na) na rfl
    subst ex
    cases r1
    rcases hq with hq | hq
    · obtain ⟨its, r, pl, hz⟩ := J1.list hq
      have hn : its.toArray.size = ns.length := (List.size_toArray ..).trans (r.length.symm.trans (List.length_map ..))
      have hi : IntsAre its.toArray.toList ns := RZ.intsAre_vals r
      refine call_set_list (J1.ok.hd hc) pl.isList hi (by rw [hn]; unfold scanBound; omega) fun h2 tk hS hk => PyProof.Rows.args_nil ?_
      have hle := PyProof.Rows.firstMet_length_le (fun i => ns.getD i 0) its.toArray.size
      have hany := PyProof.Rows.firstMet_any (fun i => ns.getD i 0) its.toArray.size
      have hnd := firstMet_nd (fun i => ns.getD i 0) its.toArray.size
      generalize PyProof.Rows.firstMet (fun i => ns.getD i 0) its.toArray.size = ms at hS hle hany hnd
      obtain ⟨o, es, ep, t, ho, hex, hd, _, _, _, hf, hc⟩ := hS
      have J2 : Inv X pins σ H1 { s1 with heap := h2, toks := tk } := J1.kept fun b o e => hk b o (Heap.lt_size e) e
      refine call_len_set ho hex hd hf (by rw [hc] <;> omega) ⟨.int ms.length, H1, J2.tok _, ⟨_, by rw [hc]⟩, q1 ms hnd fun k => ?_⟩
      have e1 := hany k
      have e2 : (List.range its.toArray.size).map (fun i => ns.getD i 0) = ns := by
        rw [hn]
        refine List.ext_getElem (by simp) fun i h1 h2 => ?_
        rw [List.getElem_map, List.getElem_range, List.getD_eq_getElem?_getD, List.getElem?_eq_getElem (by simpa using h2)]
        rfl
      rw [e2] at e1
      rw [Bool.eq_iff_iff, List.any_eq_true, List.any_eq_true] at e1
      constructor
      · intro hk
        obtain ⟨x, hx, e⟩ := e1.mp ⟨k, hk, beq_self_eq_true k⟩
        rwa [← eq_of_beq e]
      · intro hk
        obtain ⟨x, hx, e⟩ := e1.mpr ⟨k, hk, beq_self_eq_true k⟩
        rwa [← eq_of_beq e]
    · obtain ⟨its, r, pl, hz⟩ := J1.tuple hq
      have hi : IntsAre its.toArray.toList ns := RZ.intsAre_vals r
      have pl : s1.heap.IsTuple l its.toArray := pl
      refine call_set_tupI ns (J1.ok.hd hc) pl hi (by unfold scanBound; omega) fun h2 tk c hS hcl hk => PyProof.Rows.args_nil ?_
      obtain ⟨o, es, ep, t, ho, hex, hd, _, hnd, hmem, _, hf, hcc, _, _⟩ := hS
      have J2 : Inv X pins σ H1 { s1 with heap := h2, toks := tk } := J1.kept fun b o e => hk b o e
      have hcs : (es.size : Int) < 2 ^ 63 := by rw [hcc]; omega
      have hq := q1 (es.toList.map keyOf) hnd fun k => by rw [← hmem k]; simp
      rw [List.length_map, Array.length_toList] at hq
      exact call_len_set ho hex hd hf hcs ⟨.int es.size, H1, J2.tok _, ⟨_, rfl⟩, hq⟩⟩
def dLenSet (fa : DE) : DE := fun ρ P => fa ρ fun x => ∃ ns : List Int, seqOf x = some (ns.map PyData.int) ∧ ns.length ≤ 4000 ∧ ∀ ms : List Int, ms.Nodup → (∀ k, k ∈ ms ↔ k ∈ ns) → P (.int (ms.length : Nat))
theorem qe_lenSet {p p2 q : Pos} (hg : Gl X "len") (hm : X.mg "len" = none) (hg2 : Gl X "set") (hm2 : X.mg "set" = none) (ha : QE X a fa) (hc : X.calm = true := by rfl)
    (na : starEach [a] X.env = (false, eval a X.env) :: starEach [] X.env := by rfl) : QE X (.Call (.Name "len" p) [.Call (.Name "set" p2) [a] [] q] [] pos) (dLenSet fa) :=
  ⟨pe_imp (pe_lenSetD hg hm hg2 hm2 ha.pe hc na) fun σ H Q ⟨w, H0, kp, O, ρ, P, rep, h, q⟩ => rep.go h fun d v H1 ⟨ns, e, hl, h1⟩ s1 rep1 r1 => by
    obtain ⟨l, xs, rfl, hp, rs⟩ := Rps.sq r1 e
    have := rs.ints
    subst this
    exact ⟨l, ns, rfl, hp, hl, fun ms a1 a2 => q _ _ _ (h1 ms a1 a2) s1 (.int _)⟩⟩
end
end Dw

namespace Dw
open PySem PySem.Spec PyProof.Rows L2 PySem.Calls
section
variable {prog : Program} {w : World} {A : Around} {E : Value → Shared → Prop} {s : Shared} {R : Value → PyData → Prop}
theorem sorting_push_old {h : Heap} {vs : List Value} {b : Addr} {o : Obj} (e : h.get? b = some o) : (PySem.W.sortingHeap (h.push (seqObj "list" vs.toArray 0)) h.objs.size vs).get? b = some o :=
  PySem.W.sortingHeap_old (Nat.ne_of_lt (Heap.lt_size e)) (Heap.get?_push_of_some _ e)
/-- sorted(a) over what collect gives -/
theorem sorted_coll {l : Addr} {T : List Value → Shared → Prop} {Q : Value → Shared → Prop}
    (hc : ∀ E', wpAny (model prog w) A.in1 (collect (.ref l)) T E' s)
    (hq : ∀ vs s1, T vs s1 → ∃ bs : List PyData, PySem.W.EachIs R vs bs ∧ PySem.W.EachIs (fun v b => ∃ as, Reads s1.heap v b as) vs bs ∧ PySem.W.AllAlike bs ∧ PySem.W.Sortable bs ∧ vs.length ≤ sizeLine ∧ (∀ b, b ∈ bs → A.units + 2 + b.depth < cLine) ∧
      ∀ out, out.length = bs.length → PySem.W.EachIs R out (bs.mergeSort (PySem.W.dataLe false id)) → Q (.ref s1.heap.objs.size) { s1 with heap := sortedHeap (s1.heap.push (seqObj "list" vs.toArray 0)) s1.heap.objs.size vs (List.toArray out) }) :
    wpAny (model prog w) A (call (.builtin "sorted") [.ref l]) Q E s := by
  refine call_function_entry_kw kind_sorted plain_sorted entry_sorted (args_sorted1 _) ?_
  unfold Builtin.«sorted»
  refine wpAny_bind (m := checkCount "sorted" 1 1 _) (wpAny_pure (wpAny_bind (wpAny_mono (hc _) (fun vs s1 ht => ?_) fun _ _ z => z)))
  obtain ⟨bs, e, er, hal, hk, hL, hu, h⟩ := hq vs s1 ht
  have at1 : (s1.heap.push (seqObj "list" vs.toArray 0)).get? s1.heap.objs.size = some (seqObj "list" vs.toArray 0) := Heap.get?_push_size _ rfl
  have er1 : PySem.W.EachIs (fun v b => ∃ as, Reads (PySem.W.sortingHeap (s1.heap.push (seqObj "list" vs.toArray 0)) s1.heap.objs.size vs) v (id b) as) vs bs := er.mono fun _ _ ⟨as, r⟩ => ⟨as, PyProof.Rows.Reads.keeps (fun _ _ z => sorting_push_old z) r⟩
  refine wpAny_bind (wpAny_newList (wpAny_bind (wpAny_holding (wpAny_call_entry_kw slot_list_sort ⟨_, at1, rfl⟩ entry_list_sort ?_ (args_list_sort _)))) hL)
  have S := PySem.W.SortsAt.data (prog := prog) (w := w) (A := A.in1.in1) (s := { s1 with heap := PySem.W.sortingHeap (s1.heap.push (seqObj "list" vs.toArray 0)) s1.heap.objs.size vs })
    (PySem.W.each_map (R := fun v d => ∃ as, Reads (PySem.W.sortingHeap (s1.heap.push (seqObj "list" vs.toArray 0)) s1.heap.objs.size vs) v d as) id er1) (by rw [List.map_id]; exact hal) (by rw [List.map_id]; exact hk) (PySem.W.bound_map (A := A.in1.in1) (enc := id) hu)
  refine PySem.W.list_sort_vals (s := { s1 with heap := s1.heap.push (seqObj "list" vs.toArray 0) }) at1 S hL ⟨_, rfl, wpAny_pure ⟨_, rfl, ?_⟩⟩
  exact h _ (by rw [PySem.W.sortVals_length false rfl]; exact e.length) (PySem.W.sortVals_data (enc := id) false e er1 (by rw [List.map_id]; exact hal))
end
def sortedA : GL := fun ds P => match ds with
  | [.list a] => (PySem.W.AllAlike a ∧ PySem.W.Sortable a ∧ PyData.depthAll a ≤ 100) ∧ P (.list (a.mergeSort (PySem.W.dataLe false id)))
  | [.tuple a] => (PySem.W.AllAlike a ∧ PySem.W.Sortable a ∧ PyData.depthAll a ≤ 100) ∧ P (.list (a.mergeSort (PySem.W.dataLe false id)))
  | _ => False
section
variable {X : Cx}
theorem cd_sortedA (hu : X.A.units + 102 < cLine) : CallD X (.builtin "sorted") sortedA := by
  intro pins s σ H xs us w O ds P Q I r k rp h q
  unfold sortedA at h
  split at h
  · exact cd_sorted hu pins s σ H xs us w O _ P Q I r k rp h q
  · obtain ⟨x, rfl, px⟩ := rps_one rp
    obtain ⟨a, ys, rfl, e1, r1⟩ := px.tup_inv
    obtain ⟨⟨hal, hso, hd⟩, h⟩ := h
    obtain ⟨u, rfl, ru⟩ := vals1 r
    cases ru
    obtain ⟨its, rv, ⟨o, ho, hcl, n, hdt⟩, hz⟩ := I.tuple (sqT_off e1)
    obtain ⟨as, hr⟩ := Inv.readsAll I rv r1
    rename_i dl
    have hlen := rv.length
    refine sorted_coll (R := fun v d => ∃ y, RelV y v ∧ Rp X.K (off (w.Z ++ O) H) y d) (T := fun vs s1 => vs = its ∧ ∃ h', (∀ b o', s.heap.get? b = some o' → h'.get? b = some o') ∧ s1 = { s with heap := h' })
      (fun E' => PySem.wpAny_collect_seq a (.inr rfl) ho hcl hdt (fun h' hk => ⟨by simp, h', hk, rfl⟩) (by rw [List.size_toArray, ← hlen]; exact hz)) ?_
    rintro vs _ ⟨ev, h', hk, rfl⟩
    subst ev
    refine ⟨dl, each_rps rv r1, ?_, hal, hso, by rw [← hlen]; exact hz, fun b hb => ?_, fun out ho2 hout => ?_⟩
    · have hr2 : ReadsAll h' vs (dl.map id) as := by rw [List.map_id]; exact ReadsAll.keeps hk hr
      have := PySem.W.readsAll_each id hr2
      exact this.mono fun _ _ z => z
    · have := depth_mem hb
      omega
    · obtain ⟨zs, rz, pz⟩ := rps_each hout
      have I1 : Inv X pins σ H { s with heap := h', toks := s.toks } := I.kept hk
      have at1 : (h'.push (seqObj "list" (List.toArray vs) 0)).get? h'.objs.size = some (seqObj "list" (List.toArray vs) 0) := Heap.get?_push_size _ rfl
      obtain ⟨ep, he'⟩ := sortedHeap_at (vs := vs) (out := out.toArray) at1
      have hn : H h'.objs.size = none := I1.hok.fresh (Nat.le_refl _)
      refine ⟨.ref _, upd H h'.objs.size (.lst zs), I1.laid (t' := s.toks) (fun b u hb => ?_) (Nat.le_refl _) ⟨?_, _, ep, rz, he'⟩, rfl, q _ _ _ h (Stp.laid k.r hn) (k.lst hn pz)⟩
      · have hlt := Heap.lt_size hb
        rw [sortedHeap_old (Nat.ne_of_lt hlt) (by rw [size_push']; exact Nat.lt_succ_of_lt hlt)]
        exact Heap.get?_push_of_some _ hb
      · rw [pz.length, List.length_mergeSort, ← r1.length]; exact hz
  · exact h.elim
end
end Dw

namespace Dw
open PySem PySem.Spec PyProof.Rows L2
section
variable {P : Program} {w : World} {A : Around} {E : Value → Shared → Prop} {s : Shared}
/-- a new set -/
def set0 (w : World) : Obj := { cls := .type "set", dict := none, data := .set #[] 0 (.fresh 0 0 (!w.params.followText "set-order")) }
set_option maxRecDepth 100000 in
set_option maxHeartbeats 3200000 in
/-- set(l), l a list of ints -/
theorem set_of_list {a : Addr} {xs : Array Value} (ns : List Int) {Q : Value → Shared → Prop} (hd : A.handled = none) (hl : s.heap.IsList a xs) (hx : IntsAre xs.toList ns) (hb : ns.length + 1 < scanBound)
    (q : ∀ (h2 : Heap) (tk c : Nat), SetR w h2 s.heap.objs.size (fun j => decide (j ∈ ns)) c → c ≤ ns.length → (∀ b o, s.heap.get? b = some o → h2.get? b = some o) → Q (.ref s.heap.objs.size) { s with heap := h2, toks := tk }) :
    wpAny (model P w) A (call (.type "set") [.ref a]) Q E s := by
  have hsz : xs.size = ns.length := by rw [← IntsAre.length hx, Array.length_toList]
  obtain ⟨c, tl, mro⟩ := F.called_set.mro; have made := F.called_set.made; have sub := F.called_set.sub
  refine wpAny_call (codeAny_of_tree ?_); show wpAny _ _ (callAny (.type "set") _) _ _ _
  refine wpAny_pure ⟨Code.quiet_builtin _ (by decide +kernel), codeAny_builtin F.entry_type_call ?_⟩; rw [Around.under_plain (weight_type_call_type "set" [.ref a] []) rfl]
  have n1 := F.called_set.notType; have n2 := F.called_set.canCreate; have n3 := F.typeCall_set_1 (.ref a)
  repeat (any_goals (first | assumption | wp_step))
  refine codeAny_mono (code_set_led1 (.ref a) (E := E) (Q₁ := fun v s1 => v = .ref s.heap.objs.size ∧ s1 = { s with heap := s.heap.push (set0 w) }) ⟨rfl, rfl⟩) fun r s1 hr => ?_
  rcases r with e | f
  · exact hr
  · cases f with
    | ret v =>
      obtain ⟨rfl, rfl⟩ := hr
      have at0 : (s.heap.push (set0 w)).get? s.heap.objs.size = some (set0 w) := Heap.get?_push_size _ rfl
      have ty0 : Shared.TypeIs { s with heap := s.heap.push (set0 w) } (.ref s.heap.objs.size) "set" := ⟨_, at0, rfl⟩
      have i1 := F.called_set.init.lookup; have i2 := F.called_set.init.bind (.ref s.heap.objs.size)
      repeat (any_goals (first | assumption | wp_step))
      refine codeAny_mono (codeAny_call_builtin (R := wants (fun r s2 => r = .none ∧ ∃ h2 tk c, s2 = { s with heap := h2, toks := tk } ∧ SetR w h2 s.heap.objs.size (fun j => decide (j ∈ ns)) c ∧ c ≤ ns.length ∧ (∀ b o, s.heap.get? b = some o → h2.get? b = some o)) E)
        F.called_set.init.plain F.entry_set_init (check_set_init_1 ty0 ?_)) fun r2 s2 hr2 => ?_
      · obtain ⟨ol, hol, hcl, nl, hdl⟩ := hl; obtain ⟨oc, od, oa, os⟩ := ol; simp only at hcl hdl; subst hcl; subst hdl
        have al : (s.heap.push (set0 w)).get? a = some { cls := .type "list", dict := od, data := .seq xs nl, slots := os } := Heap.get?_push_of_some _ hol
        have k1 := F.sub_list_set; have k2 := F.sub_list_frozenset; have k3 : (Value.type "list" == Value.type "dict") = false := by decide
        have ll : (s.heap.push (set0 w)).IsList a xs := ⟨_, al, rfl, nl, rfl⟩
        unfold Builtin.«set.__init__» noKeywords Builtin.Frozenset.updateFrom; generalize hPI : pyIter = PI
        wp_walk
        subst hPI
        refine wpAny_pyIter_list ll (wpAny_bind (wpAny_runValue ?_))
        have alt : a < s.heap.objs.size := Heap.lt_size hol
        have nI : a ≠ (s.heap.push (set0 w)).objs.size := by rw [Heap.size_push]; exact Nat.ne_of_lt (Nat.lt_succ_of_lt alt)
        have nS : s.heap.objs.size ∉ [(s.heap.push (set0 w)).objs.size, a] := by
          rw [Heap.size_push, List.mem_cons, List.mem_singleton]
          rintro (z | z)
          · exact Nat.ne_of_lt (Nat.lt_succ_self _) z
          · exact Nat.ne_of_gt alt z
        have val : ∀ (i : Nat) (v : Value), xs[i]? = some v → ∃ k t, ns[i]? = some k ∧ v = .int k t := fun i v hv => by
          have hi : i < ns.length := by rw [← hsz]; exact (Array.getElem?_eq_some_iff.mp hv).1
          obtain ⟨t, e⟩ := PyProof.Rows.IntsAre.int_at hx i v (by rw [Array.getElem?_toList]; exact hv)
          exact ⟨ns[i], t, List.getElem?_eq_getElem hi, by rw [e, List.getD_eq_getElem?_getD, List.getElem?_eq_getElem hi] <;> rfl⟩
        have h3 : A.in1.in1.in1.handled = none := by simp [hd]
        have at1 : ((s.heap.push (set0 w)).push { cls := .type "list_iterator", data := .fields #[.ref a, .int 0 0] }).get? s.heap.objs.size = some (set0 w) := Heap.get?_push_of_some _ at0
        refine set_update_ints ((Walks.list h3 _ a nI xs).toS) s.heap.objs.size nS ns hsz hb val (xs.size - 0) 0 _ (by omega) (Nat.zero_le _) ⟨⟨_, Heap.get?_push_size _ rfl, rfl, rfl⟩, (ll.push _)⟩ ⟨0, Nat.le_refl 0, setR_new_at at1⟩ ?_
        intro s3 c2 hm hc2 hS2
        obtain ⟨h2, g2, d2, tk2, os2⟩ := s3
        obtain rfl : g2 = s.gens := hm.gens
        obtain rfl : d2 = s.drawn := hm.drawn
        obtain rfl : os2 = s.os := hm.os
        show wpAny _ _ _ _ _ _
        refine wpAny_pure ?_
        show wpAny _ _ (ret Value.none) _ _ _
        rw [hsz] at hc2
        refine wpAny_pure ⟨rfl, h2, tk2, c2, rfl, hS2, hc2, fun b o e => ?_⟩
        have b0 : b < s.heap.objs.size := Heap.lt_size e
        refine hm.heap b o (fun z => ?_) (Heap.get?_push_of_some _ (Heap.get?_push_of_some _ e))
        rcases List.mem_cons.mp z with z | z
        · exact Nat.ne_of_lt b0 z
        · rw [List.mem_singleton] at z
          have e2 : b = Nat.succ s.heap.objs.size := z.trans (Heap.size_push ..)
          rw [e2] at b0
          exact Nat.not_succ_lt_self b0
      · rcases r2 with e | f2
        · exact hr2
        · cases f2 with
          | ret v2 =>
            obtain ⟨rfl, h2, tk, c2, rfl, hS2, hc2, hk2⟩ := hr2
            repeat (any_goals (first | assumption | wp_step))
            exact q _ _ _ hS2 hc2 hk2
          | _ => exact hr2.elim
    | _ => exact hr.elim
end
end Dw

namespace Dw
open PySem PySem.Spec PyProof.Rows L2
section
variable {X : Cx} {a : Expr} {fa : DE}
/-- sorted(set(xs)), ints -/
def tSortSetD (K : PySem.W.Frag) (ta : TE) : TE := fun σ H Q => ta σ H fun x H1 => ∃ (l : Addr) (ns : List Int), x = .ref l ∧ SqL K H1 l (ns.map V.int) ∧ ns.length ≤ 4000 ∧
  ∀ (ms : List Int) (p : Addr), ms.Pairwise (· < ·) → (∀ k, k ∈ ms ↔ k ∈ ns) → H1 p = none → Q (.ref p) (upd H1 p (.lst (ms.map V.int)))
theorem sorted_of_set {s : Shared} {pins : List (Addr × Obj)} {σ : L2.St} {H : Hp} {p : Addr} {S : Int → Bool} {n : Nat} {Q : Value → Shared → Prop} (J : Inv X pins σ H s) (hc : X.calm = true) (hu : X.A.units + 102 < cLine) (R : SetR X.w s.heap p S n)
    (q : ∀ (ms : List Int) (b : Addr) (u : Value) (s2 : Shared), ms.Pairwise (· < ·) → (∀ k, k ∈ ms ↔ S k = true) → H b = none → u = .ref b → Inv X pins σ (upd H b (.lst (ms.map V.int))) s2 → Q u s2) :
    wpAny (model X.prog X.w) X.A (call (.builtin "sorted") [.ref p]) Q X.xe s := by
  obtain ⟨o, es, ep, t, ho, hex, hd, g, nd, hm, hb, hf, hn, hr, hl⟩ := R
  have each_int : ∀ (vs : List Value), (∀ v ∈ vs, ∃ k tk, v = Value.int k tk) → PySem.W.EachIs (fun v d => ∃ k tk, v = Value.int k tk ∧ d = PyData.int k) vs (vs.map fun v => PyData.int (Builtin.Re.reRawOf v)) := by
    intro vs
    induction vs with
    | nil => intro _; exact .nil
    | cons v vs ih =>
      intro h
      obtain ⟨k, tk, rfl⟩ := h v (List.mem_cons_self ..)
      exact .cons ⟨k, tk, rfl, rfl⟩ (ih fun u hu => h u (List.mem_cons_of_mem _ hu))
  refine sorted_coll (R := fun v d => ∃ k tk, v = Value.int k tk ∧ d = PyData.int k) (T := fun vs s1 => (∀ b o, s.heap.get? b = some o → s1.heap.get? b = some o) ∧ s.heap.objs.size ≤ s1.heap.objs.size ∧ s1.gens = s.gens ∧ s1.os = s.os ∧ vs.Perm (es.toList.map (·.2)))
    (fun E' => collect_set (A := X.A.in1) (J.ok.hd hc) ⟨o, ho, hex.1, hd⟩ hf hb hr hl fun s1 vs k1 hz g1 o1 pm => ⟨k1, hz, g1, o1, pm⟩) fun vs s1 ⟨k1, hz, g1, o1, pm⟩ => ?_
  have hI : ∀ v ∈ vs, ∃ k tk, v = Value.int k tk := fun v hv => by
    obtain ⟨e, he, z⟩ := List.mem_map.mp (pm.mem_iff.mp hv)
    obtain ⟨k, tk, h1, _⟩ := g e he
    exact ⟨k, tk, z.symm.trans h1⟩
  have hE := each_int vs hI
  have hvl : vs.length ≤ sizeLine := by
    rw [pm.length_eq, List.length_map, Array.length_toList]
    exact fits_of_scanBound hb
  have eb : (vs.map fun v => PyData.int (Builtin.Re.reRawOf v)) = (vs.map Builtin.Re.reRawOf).map PyData.int := by rw [List.map_map]; rfl
  have pk : (vs.map Builtin.Re.reRawOf).Perm (es.toList.map keyOf) := by
    have z := pm.map Builtin.Re.reRawOf
    rw [List.map_map] at z
    exact z
  refine ⟨_, hE, hE.mono (fun v d h => ?_), ?_, ?_, hvl, fun b hb => ?_, fun out ho2 hout => ?_⟩
  · obtain ⟨k, tk, e1, e2⟩ := h
    subst e1; subst e2; exact ⟨_, .int k tk⟩
  · rw [eb]
    intro d hd e he
    obtain ⟨a, _, rfl⟩ := List.mem_map.mp hd
    obtain ⟨b, _, rfl⟩ := List.mem_map.mp he
    rfl
  · rw [eb]
    refine .inr fun d hd => ?_
    obtain ⟨a, _, rfl⟩ := List.mem_map.mp hd
    exact ⟨(fun e => by cases e), (fun xs e => by cases e)⟩
  · obtain ⟨v, _, rfl⟩ := List.mem_map.mp hb
    show X.A.units + 2 + (PyData.int _).depth < cLine
    have : (PyData.int (Builtin.Re.reRawOf v)).depth = 0 := rfl
    omega
  · rw [eb] at hout
    have hs : ((vs.map Builtin.Re.reRawOf).map PyData.int).mergeSort (PySem.W.dataLe false id) = ((vs.map Builtin.Re.reRawOf).mergeSort fun a b => decide (a ≤ b)).map PyData.int := by
      refine (List.map_mergeSort fun a _ b _ => ?_).symm
      exact (congrFun (congrFun (PySem.W.dataLe_int (β := Int) id) a) b).symm
    rw [hs] at hout
    generalize hms : ((vs.map Builtin.Re.reRawOf).mergeSort fun a b => decide (a ≤ b)) = ms at hout
    have pms : ms.Perm (es.toList.map keyOf) := by rw [← hms]; exact (List.mergeSort_perm ..).trans pk
    have le : ms.Pairwise (· ≤ ·) := by
      rw [← hms]
      have := List.pairwise_mergeSort (le := fun a b : Int => decide (a ≤ b)) (fun a b c h1 h2 => by simp at *; omega) (fun a b => by simp; omega) (vs.map Builtin.Re.reRawOf)
      exact this.imp fun h => by simpa using h
    have lt : ms.Pairwise (· < ·) := L2.lt_of_le_nodup ms le (pms.nodup_iff.mpr nd)
    have rv : ∀ (out : List Value) (ns : List Int), PySem.W.EachIs (fun v d => ∃ k tk, v = Value.int k tk ∧ d = PyData.int k) out (ns.map PyData.int) → Vals (ns.map V.int) out := by
      intro out
      induction out with
      | nil =>
        intro ns h
        cases ns with
        | nil => exact .nil
        | cons a b => cases h
      | cons v out ih =>
        intro ns h
        cases ns with
        | nil => cases h
        | cons a b =>
          cases h with
          | cons h1 h2 =>
            obtain ⟨k, tk, e1, e2⟩ := h1
            cases e2
            exact .cons ⟨tk, e1⟩ (ih b h2)
    have hv := rv out ms hout
    have at1 : (s1.heap.push (seqObj "list" (List.toArray vs) 0)).get? s1.heap.objs.size = some (seqObj "list" (List.toArray vs) 0) := Heap.get?_push_size _ rfl
    obtain ⟨c, hc2⟩ := sortedHeap_at (vs := vs) (out := out.toArray) at1
    have hn1 : H s1.heap.objs.size = none := J.hok.fresh hz
    have hlen : (ms.map V.int).length ≤ sizeLine := by
      rw [List.length_map, pms.length_eq, List.length_map, Array.length_toList]
      exact fits_of_scanBound hb
    have kk : ∀ b u, s.heap.get? b = some u → (sortedHeap (s1.heap.push (seqObj "list" (List.toArray vs) 0)) s1.heap.objs.size vs out.toArray).get? b = some u := fun b u e => by
      have e1 := k1 b u e
      have lt1 := Heap.lt_size e1
      rw [sortedHeap_old (Nat.ne_of_lt lt1) (by rw [size_push']; exact Nat.lt_succ_of_lt lt1)]
      exact Heap.get?_push_of_some _ e1
    refine q ms s1.heap.objs.size _ _ lt (fun k => by rw [pms.mem_iff, ← hm k]) hn1 rfl ?_
    have J2 : Inv X pins σ (upd H s1.heap.objs.size (.lst (ms.map V.int))) { s with heap := sortedHeap (s1.heap.push (seqObj "list" (List.toArray vs) 0)) s1.heap.objs.size vs out.toArray, gens := s1.gens, drawn := s1.drawn, toks := s1.toks } :=
      J.call (ch := []) (Un.laid kk hz hn1) (J.hok.laid kk hz ⟨hlen, out, c, hv, hc2⟩) (by rw [g1]; exact J.bare) (fun _ z => nomatch z)
    have e : { s1 with heap := sortedHeap (s1.heap.push (seqObj "list" (List.toArray vs) 0)) s1.heap.objs.size vs out.toArray } = { s with heap := sortedHeap (s1.heap.push (seqObj "list" (List.toArray vs) 0)) s1.heap.objs.size vs out.toArray, gens := s1.gens, drawn := s1.drawn, toks := s1.toks } := by
      cases s1; cases s; cases o1; rfl
    rw [e]
    exact J2
theorem pe_sortSetD {ta : TE} {p p2 q pos : Pos} (hg : Gl X "sorted") (hm : X.mg "sorted" = none) (hg2 : Gl X "set") (hm2 : X.mg "set" = none) (ha : PE X a ta) (hu : X.A.units + 102 < cLine) (hc : X.calm = true := by rfl)
    (na : starEach [a] X.env = (false, eval a X.env) :: starEach [] X.env := by rfl) : PE X (.Call (.Name "sorted" p) [.Call (.Name "set" p2) [a] [] q] [] pos) (tSortSetD X.K ta) :=
  ⟨fun pins s σ H Q J h => by
    refine Call_ (ld_blt J hg hm (by rfl) (PyProof.Rows.callWith_builtin1 (PyProof.Rows.args_cons (Call_ (ld_blt J hg2 hm2 boot_set ?_)) rfl) rfl rfl))
    refine PyProof.Rows.callWith_type1 (PyProof.Rows.args_cons (thn (ha.run pins s σ H _ J h) fun v s1 ⟨x, H1, J1, r1, l, ns, ex, hq, hl, q1⟩ => PyProof.Rows.args_nil ?_) na) na rfl
    subst ex
    cases r1
    obtain ⟨its, r, pl, hz⟩ := J1.list hq
    have hi : IntsAre its.toArray.toList ns := RZ.intsAre_vals r
    refine set_of_list ns (J1.ok.hd hc) pl.isList hi (by unfold scanBound; omega) fun h2 tk c hS hcl hk => PyProof.Rows.args_nil ?_
    have J2 : Inv X pins σ H1 { s1 with heap := h2, toks := tk } := J1.kept fun b o e => hk b o e
    refine sorted_of_set J2 hc hu hS fun ms b u s2 hlt hmem hb eu J3 => ?_
    exact ⟨.ref b, _, J3, eu, q1 ms b hlt (fun k => by rw [hmem k]; simp) hb⟩⟩
def dSortSet (fa : DE) : DE := fun ρ P => fa ρ fun x => ∃ ns : List Int, x = .list (ns.map PyData.int) ∧ ns.length ≤ 4000 ∧ ∀ ms : List Int, ms.Pairwise (· < ·) → (∀ k, k ∈ ms ↔ k ∈ ns) → P (.list (ms.map PyData.int))
theorem qe_sortSet {p p2 q pos : Pos} (hu : X.A.units + 102 < cLine) (hg : Gl X "sorted") (hm : X.mg "sorted" = none) (hg2 : Gl X "set") (hm2 : X.mg "set" = none) (ha : QE X a fa) (hc : X.calm = true := by rfl)
    (na : starEach [a] X.env = (false, eval a X.env) :: starEach [] X.env := by rfl) : QE X (.Call (.Name "sorted" p) [.Call (.Name "set" p2) [a] [] q] [] pos) (dSortSet fa) :=
  ⟨pe_imp (pe_sortSetD hg hm hg2 hm2 ha.pe hu hc na) fun σ H Q ⟨w, H0, kp, O, ρ, P, rep, h, q⟩ => rep.go h fun d v H1 ⟨ns, e, hl, h1⟩ s1 rep1 r1 => by
    subst e
    obtain ⟨l, xs, rfl, hp, rs⟩ := r1.list_inv
    have := rs.ints
    subst this
    refine ⟨l, ns, rfl, SqL.of (off_some.mp hp).2, hl, fun ms b hlt hmem hb => q _ _ _ (h1 ms hlt hmem) (s1.trans (Stp.laid rep1.r hb)) (rep1.wok.lst hb (Rps.of_ints ms))⟩⟩
end
end Dw

namespace Dw
open PySem PySem.Spec PyProof.Rows L2
/-- the truth of data -/
def truD : D → Option Bool
  | .none => some false
  | .bool b => some b
  | .int i => some (i != 0)
  | .list l => some (!l.isEmpty)
  | .tuple l => some (!l.isEmpty)
  | _ => none
theorem Rps.emp {K : PySem.W.Frag} {H : Hp} {vs : List V} {ds : List D} (h : Rps K H vs ds) : (!ds.isEmpty) = !vs.isEmpty := by cases h <;> rfl
theorem truV_of {K : PySem.W.Frag} {Z : List Addr} {H : Hp} {v : V} {d : D} {k : Bool} (h : Rp K (off Z H) v d) (e : truD d = some k) : TruV K v H k := by
  cases d <;> simp only [truD, Option.some.injEq, reduceCtorEq] at e
  · rw [h.none_inv]; exact e.symm
  · rw [h.bool_inv]; exact e.symm
  · rw [h.int_inv]; exact e.symm
  · obtain ⟨a, xs, rfl, e1, r⟩ := h.list_inv
    exact .inl ⟨xs, SqL.of (off_some.mp e1).2, by rw [← e, r.emp]⟩
  · obtain ⟨a, xs, rfl, e1, r⟩ := h.tup_inv
    exact .inr (.inl ⟨xs, sqT_off e1, by rw [← e, r.emp]⟩)
def dOrX (f g : DE) : DE := fun ρ P => f ρ fun x => ∃ k, truD x = some k ∧ if k = true then P x else g ρ P
def dAndX (f g : DE) : DE := fun ρ P => f ρ fun x => ∃ k, truD x = some k ∧ if k = true then g ρ P else P x
section
variable {X : Cx} {a b : Expr} {fa fb : DE} {pos : Pos}
theorem qe_orX {rest : List Expr} (ha : QE X a fa) (hb : QE X (.BoolOp .Or (b :: rest) pos) fb) : QE X (.BoolOp .Or (a :: b :: rest) pos) (dOrX fa fb) :=
  ⟨pe_imp (pe_orT ha.pe hb.pe) fun σ H Q ⟨w, H0, kp, O, ρ, P, rep, h, q⟩ => rep.go h fun d v H1 ⟨c, ec, h1⟩ s1 rep1 r1 => by
    refine ⟨c, truV_of r1 ec, ?_⟩
    cases c with
    | false => simp only [Bool.false_eq_true, if_false] at h1 ⊢; exact rep1.go h1 fun d2 v2 H2 h2 s2 _ r2 => q _ _ _ h2 (s1.trans s2) r2
    | true => simp only [if_true] at h1 ⊢; exact q _ _ _ h1 s1 r1⟩
theorem qe_andX {rest : List Expr} (ha : QE X a fa) (hb : QE X (.BoolOp .And (b :: rest) pos) fb) : QE X (.BoolOp .And (a :: b :: rest) pos) (dAndX fa fb) :=
  ⟨pe_imp (pe_andT ha.pe hb.pe) fun σ H Q ⟨w, H0, kp, O, ρ, P, rep, h, q⟩ => rep.go h fun d v H1 ⟨c, ec, h1⟩ s1 rep1 r1 => by
    refine ⟨c, truV_of r1 ec, ?_⟩
    cases c with
    | true => simp only [if_true] at h1 ⊢; exact rep1.go h1 fun d2 v2 H2 h2 s2 _ r2 => q _ _ _ h2 (s1.trans s2) r2
    | false => simp only [Bool.false_eq_true, if_false] at h1 ⊢; exact q _ _ _ h1 s1 r1⟩
end
end Dw

namespace Dw
open PySem PySem.Spec PyProof.Rows L2
open PySem.W (Datum Tup)

/-! ### readings, in plain Lean -/
theorem go_no {b : Bool} {A B : Prop} (h : b = false) (q : B) : if b = true then A else B := by subst h; exact q
theorem go_yes {b : Bool} {A B : Prop} (h : b = true) (q : A) : if b = true then A else B := by subst h; exact q
theorem go_if {b : Bool} {A B : Prop} (h1 : b = true → A) (h2 : b = false → B) : if b = true then A else B := by
  cases b
  · exact h2 rfl
  · exact h1 rfl
theorem eqv_toD {α : Type} [DecidableEq α] [Datum α] (a b : α) : PyData.eqv (Datum.toD a) (Datum.toD b) = decide (a = b) := Datum.eqv a b
theorem eqv_int (i j : Int) : PyData.eqv (.int i) (.int j) = decide (i = j) := Datum.eqv i j
theorem eqv_ints (a b : List Int) : PyData.eqv (.list (a.map PyData.int)) (.list (b.map PyData.int)) = decide (a = b) := Datum.eqv a b
theorem eqv_tints (a b : List Int) : PyData.eqv (.tuple (a.map PyData.int)) (.tuple (b.map PyData.int)) = decide (a = b) :=
  (Datum.eqv (Tup.mk a) (Tup.mk b)).trans (decide_eq_decide.mpr ⟨fun e => by injection e, fun e => by rw [e]⟩)
theorem any_ints (ns : List Int) (x : Int) : ((ns.map PyData.int).any fun d => PyData.eqv d (.int x)) = decide (x ∈ ns) := PySem.W.any_datum ns x
theorem eqv_self (d : D) (h : d.plain = true) : PyData.eqv d d = true := PySem.SeqAt.eqv_refl_plain d h
theorem depth_int (i : Int) : (PyData.int i).depth = 0 := by simp [PyData.depth]
theorem depth_toD {α : Type} [DecidableEq α] [Datum α] (a : α) (h : Datum.depth α ≤ 100) : (Datum.toD a).depth ≤ 100 := Nat.le_trans (Datum.depth_le a) h
theorem rng_nat (n : Nat) : rngD 0 (n : Int) = (List.range n).map fun i => .int ((i : Nat) : Int) := by
  unfold rngD
  rw [show ((n : Int) - 0).toNat = n by omega]
  exact List.map_congr_left fun i _ => by rw [Int.zero_add]
theorem rng_len (a b : Int) : (rngD a b).length = (b - a).toNat := by unfold rngD; simp

/-- the lists of a comprehension -/
theorem wComp_fm {g : DG} {tt : DT} {te : DE} {ρ : Env} (p : D → Bool) (f : D → D) : ∀ (ds acc : List D) {P : List D → Prop},
    (∀ d ∈ ds, ∀ (K1 : D → Prop) (K2 : Prop), (p d = true → K1 (f d)) → (p d = false → K2) → g d ρ fun ρ2 => tt ρ2 fun b => if b = true then te ρ2 K1 else K2) →
    acc.length + ds.length ≤ sizeLine → P (acc ++ (ds.filter p).map f) → wComp g tt te ρ ds acc P
  | [], acc, P, _, _, h => by
    show P acc
    simpa using h
  | d :: ds, acc, P, h, hl, hP => by
    refine h d (List.mem_cons_self ..) _ _ (fun e => ⟨by simp at hl; omega, ?_⟩) (fun e => ?_)
    · refine wComp_fm p f ds _ (fun d hd => h d (List.mem_cons_of_mem _ hd)) (by simp at hl ⊢; omega) ?_
      rw [List.filter_cons_of_pos e, List.map_cons] at hP
      simpa using hP
    · refine wComp_fm p f ds _ (fun d hd => h d (List.mem_cons_of_mem _ hd)) (by simp at hl ⊢; omega) ?_
      rw [List.filter_cons_of_neg (by simp [e])] at hP
      exact hP
theorem wComp_map {g : DG} {te : DE} {ρ : Env} (f : D → D) (ds : List D) {P : List D → Prop}
    (h : ∀ d ∈ ds, ∀ (K : D → Prop), K (f d) → g d ρ fun ρ2 => te ρ2 K) (hl : ds.length ≤ sizeLine) (hP : P (ds.map f)) : wComp g dYes te ρ ds [] P :=
  wComp_fm (fun _ => true) f ds [] (fun d hd K1 K2 k1 _ => h d hd K1 (k1 rfl)) (by simpa using hl) (by rw [List.filter_eq_self.mpr (fun _ _ => rfl)]; simpa using hP)
/-- .. over items that are written by enc -/
theorem wComp_a {g : DG} {tt : DT} {te : DE} {ρ : Env} {α : Type} (enc : α → D) (p : α → Bool) (f : α → D) : ∀ (xs : List α) (acc : List D) {P : List D → Prop},
    (∀ a ∈ xs, ∀ (K1 : D → Prop) (K2 : Prop), (p a = true → K1 (f a)) → (p a = false → K2) → g (enc a) ρ fun ρ2 => tt ρ2 fun b => if b = true then te ρ2 K1 else K2) →
    acc.length + xs.length ≤ sizeLine → P (acc ++ (xs.filter p).map f) → wComp g tt te ρ (xs.map enc) acc P
  | [], acc, P, _, _, h => by
    show P acc
    simpa using h
  | d :: ds, acc, P, h, hl, hP => by
    refine h d (List.mem_cons_self ..) _ _ (fun e => ⟨by simp at hl; omega, ?_⟩) (fun e => ?_)
    · refine wComp_a enc p f ds _ (fun d hd => h d (List.mem_cons_of_mem _ hd)) (by simp at hl ⊢; omega) ?_
      rw [List.filter_cons_of_pos e, List.map_cons] at hP
      simpa using hP
    · refine wComp_a enc p f ds _ (fun d hd => h d (List.mem_cons_of_mem _ hd)) (by simp at hl ⊢; omega) ?_
      rw [List.filter_cons_of_neg (by simp [e])] at hP
      exact hP
theorem wComp_t {g : DG} {tt : DT} {te : DE} {ρ : Env} {α : Type} (enc : α → D) (p : α → Bool) (f : α → D) (xs : List α) {P : List D → Prop}
    (h : ∀ a ∈ xs, ∀ (K1 : D → Prop) (K2 : Prop), (p a = true → K1 (f a)) → (p a = false → K2) → g (enc a) ρ fun ρ2 => tt ρ2 fun b => if b = true then te ρ2 K1 else K2)
    (hl : xs.length ≤ sizeLine) (hP : P ((xs.filter p).map f)) : wComp g tt te ρ (xs.map enc) [] P :=
  wComp_a enc p f xs [] h (by simpa using hl) (by simpa using hP)
theorem wComp_tm {g : DG} {te : DE} {ρ : Env} {α : Type} (enc : α → D) (f : α → D) (xs : List α) {P : List D → Prop}
    (h : ∀ a ∈ xs, ∀ (K : D → Prop), K (f a) → g (enc a) ρ fun ρ2 => te ρ2 K)
    (hl : xs.length ≤ sizeLine) (hP : P (xs.map f)) : wComp g dYes te ρ (xs.map enc) [] P :=
  wComp_t enc (fun _ => true) f xs (fun d hd K1 K2 k1 _ => h d hd K1 (k1 rfl)) hl (by rw [List.filter_eq_self.mpr (fun _ _ => rfl)]; exact hP)
theorem wComp_rng {g : DG} {te : DE} {ρ : Env} (f : Nat → D) (n : Nat) {P : List D → Prop}
    (h : ∀ i, i < n → ∀ (K : D → Prop), K (f i) → g (.int (i : Nat)) ρ fun ρ2 => te ρ2 K)
    (hl : n ≤ sizeLine) (hP : P ((List.range n).map f)) : wComp g dYes te ρ (rngD 0 (n : Int)) [] P := by
  rw [rng_nat]
  exact wComp_tm _ f _ (fun i hi => h i (List.mem_range.mp hi)) (by simpa using hl) hP
theorem wComp_rngT {g : DG} {tt : DT} {te : DE} {ρ : Env} (p : Nat → Bool) (f : Nat → D) (n : Nat) {P : List D → Prop}
    (h : ∀ i, i < n → ∀ (K1 : D → Prop) (K2 : Prop), (p i = true → K1 (f i)) → (p i = false → K2) → g (.int (i : Nat)) ρ fun ρ2 => tt ρ2 fun b => if b = true then te ρ2 K1 else K2)
    (hl : n ≤ sizeLine) (hP : P (((List.range n).filter p).map f)) : wComp g tt te ρ (rngD 0 (n : Int)) [] P := by
  rw [rng_nat]
  exact wComp_t _ p f _ (fun i hi => h i (List.mem_range.mp hi)) (by simpa using hl) hP
theorem atI_n {ds : List D} {i : Nat} {d : D} (h : ds[i]? = some d) : atI ds (i : Int) = some d := L2.atI_nat h
/-- a for loop by what holds ahead of its turns -/
theorem wFor_inv {g : DG} {body : DS} {E : DEnds} (I : Nat → Env → Prop) : ∀ (ds : List D) (i : Nat) (ρ : Env), I i ρ →
    (∀ j d ρ, ds[j]? = some d → I (i + j) ρ → ∀ k : Env → Prop, (∀ ρ', I (i + j + 1) ρ' → k ρ') → g d ρ fun ρ2 => body { E with nx := k, ct := k, bk := E.nx } ρ2) →
    (∀ ρ, I (i + ds.length) ρ → E.nx ρ) → wFor g body E ds ρ
  | [], i, ρ, h, _, q => q ρ h
  | d :: ds, i, ρ, h, b, q => by
    refine b 0 d ρ rfl h _ fun ρ' h' => ?_
    refine wFor_inv I ds (i + 1) ρ' (by simpa using h') (fun j d ρ hj hI k hk => ?_) (fun ρ hρ => q ρ (by
      rw [List.length_cons]
      have e : i + 1 + ds.length = i + (ds.length + 1) := by omega
      rwa [e] at hρ))
    refine b (j + 1) d ρ hj ?_ k ?_
    · have e : i + 1 + j = i + (j + 1) := by omega
      rwa [e] at hI
    · intro ρ' h2
      refine hk ρ' ?_
      have e : i + 1 + j + 1 = i + (j + 1) + 1 := by omega
      rwa [e]
/-- for k in range(n), by what holds ahead of the turns -/
theorem wFor_rng {g : DG} {body : DS} {E : DEnds} (I : Nat → Env → Prop) (n : Nat) (ρ : Env) (h0 : I 0 ρ)
    (h1 : ∀ i ρ, i < n → I i ρ → ∀ k : Env → Prop, (∀ ρ', I (i + 1) ρ' → k ρ') → g (.int (i : Nat)) ρ fun ρ2 => body { E with nx := k, ct := k, bk := E.nx } ρ2)
    (h2 : ∀ ρ, I n ρ → E.nx ρ) : wFor g body E (rngD 0 (n : Int)) ρ := by
  rw [rng_nat]
  refine wFor_inv I _ 0 ρ h0 (fun j d ρ hj hI k hk => ?_) (fun ρ hρ => h2 ρ (by simpa using hρ))
  rw [List.getElem?_map] at hj
  have hjn : j < n := by
    by_cases c : j < n
    · exact c
    · rw [List.getElem?_eq_none (by simp; omega)] at hj; cases hj
  rw [List.getElem?_eq_getElem (by simpa using hjn)] at hj
  simp only [List.getElem_range, Option.map_some, Option.some.injEq] at hj
  subst hj
  rw [Nat.zero_add] at hI hk
  exact h1 j ρ hjn hI k hk
/-! ### statement by statement, what follows kept small -/
theorem st_set {i : Nat} {f : DE} {u : DS} {E : DEnds} {ρ : Env} (I : D → Prop) (h : ∀ K : D → Prop, (∀ x, I x → K x) → f ρ K) (q : ∀ x, I x → u E (ρ.set i (some (.d x)))) : dSeq (dSet i f) u E ρ := h _ q
theorem st_setL {i : Nat} {ff : DF} {u : DS} {E : DEnds} {ρ : Env} (I : List D → Prop) (h : ∀ K : List D → Prop, (∀ x, I x → K x) → ff ρ K) (q : ∀ x, I x → u E (ρ.set i (some (.d (.list x))))) : dSeq (dSetL i ff) u E ρ := h _ q
theorem st_asg2 {i j : Nat} {f : DE} {u : DS} {E : DEnds} {ρ : Env} (I : D → D → Prop) (h : ∀ K : D → Prop, (∀ x y, I x y → K (.tuple [x, y])) → f ρ K) (q : ∀ x y, I x y → u E ((ρ.set i (some (.d x))).set j (some (.d y)))) :
    dSeq (dAsg f (gTupD 2 (gConsD (gN i) (gConsD (gN j) gNilD)))) u E ρ := h _ fun x y hI => ⟨rfl, rfl, q x y hI⟩
theorem st_par {i j : Nat} {f : DA} {u : DS} {E : DEnds} {ρ : Env} (I : D → D → Prop) (h : ∀ K : List D → Prop, (∀ x y, I x y → K [x, y]) → f ρ K) (q : ∀ x y, I x y → u E ((ρ.set i (some (.d x))).set j (some (.d y)))) :
    dSeq (dPar i j f) u E ρ := h _ fun x y hI => q x y hI
/-- an if that is not taken -/
theorem st_if {c : DT} {t u : DS} {E : DEnds} {ρ : Env} (h : ∀ K : Bool → Prop, K false → c (peek ρ) K) (q : u E ρ) : dSeq (dIfS c t dNext) u E ρ := h _ q
theorem st_if0 {c : DT} {t : DS} {E : DEnds} {ρ : Env} (h : ∀ K : Bool → Prop, K false → c (peek ρ) K) (q : E.nx ρ) : dIfS c t dNext E ρ := h _ q
theorem t_ne {a b : DE} {ρ : Env} {K : Bool → Prop} (I : D → Prop) (h1 : ∀ K : D → Prop, (∀ x, I x → K x) → a ρ K) (h2 : ∀ x, I x → ∀ K : D → Prop, K x → b ρ K) (hd : ∀ x, I x → x.depth ≤ 100 ∧ x.plain = true) (k : K false) : dTest (dOp neD a b) ρ K :=
  h1 _ fun x hx => h2 x hx _ ⟨by have := (hd x hx).1; omega, _, rfl, by rw [eqv_self x (hd x hx).2]; exact k⟩
theorem take_ok (m : Int) (k : Nat) {P : D → Prop} (e : m = (k : Int)) (hk : k < 2 ^ 62) (h : ∀ r : Nat, r < max k 1 → P (.int r)) : wpTake [.st, .d (.int m)] P := by
  subst e
  refine ⟨_, rfl, by omega, fun _ ⟨r, e, r0, r1⟩ => ?_⟩
  subst e
  have := h r.toNat (by omega)
  rwa [Int.toNat_of_nonneg r0] at this
/-! ### sorted -/
theorem allAlike_ints (ns : List Int) : PySem.W.AllAlike (ns.map PyData.int) := fun d hd e he => by
  obtain ⟨a, _, rfl⟩ := List.mem_map.mp hd
  obtain ⟨b, _, rfl⟩ := List.mem_map.mp he
  rfl
theorem sortable_ints (ns : List Int) : PySem.W.Sortable (ns.map PyData.int) := .inr fun d hd => by
  obtain ⟨a, _, rfl⟩ := List.mem_map.mp hd
  exact ⟨(fun e => by cases e), (fun xs e => by cases e)⟩
theorem depth_ints (ns : List Int) : PyData.depthAll (ns.map PyData.int) ≤ 100 := Nat.le_trans (PySem.W.depthAll_map ns) (Nat.zero_le _)
theorem sort_ints (ns : List Int) : (ns.map PyData.int).mergeSort (PySem.W.dataLe false id) = (ns.mergeSort fun a b => decide (a ≤ b)).map PyData.int := by
  refine (List.map_mergeSort fun a _ b _ => ?_).symm
  have := congrFun (congrFun (PySem.W.dataLe_int (β := Int) id) a) b
  exact this.symm
theorem sort_eq {ns ms : List Int} (h : ns.Perm ms) (hs : ms.Pairwise (· ≤ ·)) : (ns.mergeSort fun a b => decide (a ≤ b)) = ms := by
  refine List.Perm.eq_of_pairwise (le := fun a b : Int => a ≤ b) (fun a b _ _ h1 h2 => by omega) ?_ hs ((List.mergeSort_perm ns _).trans h)
  have := List.pairwise_mergeSort (le := fun a b : Int => decide (a ≤ b)) (fun a b c h1 h2 => by simp at *; omega) (fun a b => by simp; omega) ns
  exact this.imp fun h => by simpa using h
theorem size_big {n : Nat} (h : n ≤ 16777216) : n ≤ sizeLine := Nat.le_trans h (by decide)
end Dw

namespace Dw
open PySem PySem.Spec PyProof.Rows L2
theorem set_own {ρ : Env} {i : Nat} (hi : i < ρ.length) : ∃ y, ρ = ρ.set i y := ⟨ρ[i], (List.set_getElem_self hi).symm⟩
/-- a loop that changes but its own name -/
theorem for_keep {α : Type} {i : Nat} {body : DS} {E : DEnds} {ρ : Env} (enc : α → D) : ∀ (xs : List α) (y : Option Ent),
    (∀ a ∈ xs, ∀ E' : DEnds, E'.nx (ρ.set i (some (.d (enc a)))) → body E' (ρ.set i (some (.d (enc a))))) → (∀ y, E.nx (ρ.set i y)) → wFor (gN i) body E (xs.map enc) (ρ.set i y)
  | [], y, _, q => q y
  | a :: xs, y, h, q => by
    show body _ ((ρ.set i y).set i (some (.d (enc a))))
    rw [List.set_set]
    exact h a (List.mem_cons_self ..) _ (for_keep enc xs _ (fun b hb => h b (List.mem_cons_of_mem _ hb)) q)
theorem st_for {α : Type} {it : DI} {i : Nat} {body u : DS} {E : DEnds} {ρ : Env} (enc : α → D) (xs : List α) (hi : i < ρ.length) (hit : ∀ K : List D → Prop, K (xs.map enc) → it ρ K)
    (hb : ∀ a ∈ xs, ∀ E' : DEnds, E'.nx (ρ.set i (some (.d (enc a)))) → body E' (ρ.set i (some (.d (enc a))))) (q : ∀ y, u E (ρ.set i y)) : dSeq (dFor it (gN i) body) u E ρ := by
  refine hit _ ?_
  obtain ⟨y, e⟩ := set_own hi
  have := for_keep (E := { E with nx := u E }) enc xs y hb q
  rw [← e] at this
  exact this
theorem st_for0 {α : Type} {it : DI} {i : Nat} {body : DS} {E : DEnds} {ρ : Env} (enc : α → D) (xs : List α) (hi : i < ρ.length) (hit : ∀ K : List D → Prop, K (xs.map enc) → it ρ K)
    (hb : ∀ a ∈ xs, ∀ E' : DEnds, E'.nx (ρ.set i (some (.d (enc a)))) → body E' (ρ.set i (some (.d (enc a))))) (q : ∀ y, E.nx (ρ.set i y)) : dFor it (gN i) body E ρ := by
  refine hit _ ?_
  obtain ⟨y, e⟩ := set_own hi
  have := for_keep (E := E) enc xs y hb q
  rw [← e] at this
  exact this
theorem atI_last {l : List D} {d : D} (h0 : 0 < l.length) (h : l[l.length - 1]? = some d) : atI l (-1) = some d := by
  unfold atI ixN
  rw [if_neg (by decide), if_pos (by omega)]
  show l[((-1 : Int) + l.length).toNat]? = some d
  rw [show ((-1 : Int) + l.length).toNat = l.length - 1 by omega]
  exact h
end Dw

namespace T68
open PySem PySem.Spec PyProof.Rows L2 Dw
def top (i : Nat) : Stmt := PySem.Challenge.pw_votehall_k68_whole_one_axis.main.body.getD i (.Pass ⟨0, 0, 0, 0⟩)
abbrev s_is_whole : Stmt := top 1
theorem sc_is_whole : FnScope ["value", "low", "high"] ["value", "low", "high"] (defScope s_is_whole) := ⟨rfl, rfl, rfl, by decide +kernel, rfl, by decide +kernel, by decide +kernel⟩
abbrev s_are_peaks : Stmt := top 4
theorem sc_are_peaks : FnScope ["value", "one"] ["value"] (defScope s_are_peaks) := ⟨rfl, rfl, rfl, by decide +kernel, rfl, by decide +kernel, by decide +kernel⟩
abbrev s_middle : Stmt := top 5
theorem sc_middle : FnScope ["peaks", "ghosts", "both"] ["peaks", "ghosts"] (defScope s_middle) := ⟨rfl, rfl, rfl, by decide +kernel, rfl, by decide +kernel, by decide +kernel⟩
abbrev s_are_ghosts : Stmt := top 6
theorem sc_are_ghosts : FnScope ["peaks", "value", "one"] ["peaks", "value"] (defScope s_are_ghosts) := ⟨rfl, rfl, rfl, by decide +kernel, rfl, by decide +kernel, by decide +kernel⟩
abbrev s_mean : Stmt := top 7
theorem sc_mean : FnScope ["peaks"] ["peaks"] (defScope s_mean) := ⟨rfl, rfl, rfl, by decide +kernel, rfl, by decide +kernel, by decide +kernel⟩
abbrev s_ends : Stmt := top 8
theorem sc_ends : FnScope ["peaks"] ["peaks"] (defScope s_ends) := ⟨rfl, rfl, rfl, by decide +kernel, rfl, by decide +kernel, by decide +kernel⟩
abbrev s_chosen : Stmt := top 9
theorem sc_chosen : FnScope ["rule", "peaks", "ghosts"] ["rule", "peaks", "ghosts"] (defScope s_chosen) := ⟨rfl, rfl, rfl, by decide +kernel, rfl, by decide +kernel, by decide +kernel⟩
abbrev s_told_otherwise : Stmt := top 10
theorem sc_told_otherwise : FnScope ["peaks", "voter", "spot"] ["peaks", "voter", "spot"] (defScope s_told_otherwise) := ⟨rfl, rfl, rfl, by decide +kernel, rfl, by decide +kernel, by decide +kernel⟩
abbrev s_gain : Stmt := top 11
theorem sc_gain : FnScope ["rule", "peaks", "ghosts", "voter", "true", "best", "spot", "far"] ["rule", "peaks", "ghosts", "voter"] (defScope s_gain) := ⟨rfl, rfl, rfl, by decide +kernel, rfl, by decide +kernel, by decide +kernel⟩
abbrev s_gainer : Stmt := top 12
theorem sc_gainer : FnScope ["rule", "peaks", "ghosts", "voter", "spot"] ["rule", "peaks", "ghosts"] (defScope s_gainer) := ⟨rfl, rfl, rfl, by decide +kernel, rfl, by decide +kernel, by decide +kernel⟩
abbrev s_reach : Stmt := top 13
theorem sc_reach : FnScope ["peaks", "ghosts", "voter", "low"] ["peaks", "ghosts", "voter"] (defScope s_reach) := ⟨rfl, rfl, rfl, by decide +kernel, rfl, by decide +kernel, by decide +kernel⟩
abbrev s_nearest : Stmt := top 14
theorem sc_nearest : FnScope ["spot", "span"] ["spot", "span"] (defScope s_nearest) := ⟨rfl, rfl, rfl, by decide +kernel, rfl, by decide +kernel, by decide +kernel⟩
abbrev s_beaten : Stmt := top 15
theorem sc_beaten : FnScope ["peaks", "spot", "other", "nearer", "one"] ["peaks", "spot", "other"] (defScope s_beaten) := ⟨rfl, rfl, rfl, by decide +kernel, rfl, by decide +kernel, by decide +kernel⟩
abbrev s_unbeaten : Stmt := top 16
theorem sc_unbeaten : FnScope ["peaks", "row"] ["peaks"] (defScope s_unbeaten) := ⟨rfl, rfl, rfl, by decide +kernel, rfl, by decide +kernel, by decide +kernel⟩
abbrev s_distances : Stmt := top 17
theorem sc_distances : FnScope ["peaks", "spot", "one"] ["peaks", "spot"] (defScope s_distances) := ⟨rfl, rfl, rfl, by decide +kernel, rfl, by decide +kernel, by decide +kernel⟩
abbrev s_two_spots : Stmt := top 18
theorem sc_two_spots : FnScope ["peaks", "row", "best", "cut", "left", "right", "pair", "told", "one"] ["peaks"] (defScope s_two_spots) := ⟨rfl, rfl, rfl, by decide +kernel, rfl, by decide +kernel, by decide +kernel⟩
abbrev s__law_state : Stmt := top 20
theorem sc__law_state : FnScope ["script", "cells", "cell"] ["script"] (defScope s__law_state) := ⟨rfl, rfl, rfl, by decide +kernel, rfl, by decide +kernel, by decide +kernel⟩
abbrev s__law_take : Stmt := top 21
theorem sc__law_take : FnScope ["state", "most", "cells", "at", "cell", "mixed"] ["state", "most"] (defScope s__law_take) := ⟨rfl, rfl, rfl, by decide +kernel, rfl, by decide +kernel, by decide +kernel⟩
abbrev s__law_pick : Stmt := top 22
theorem sc__law_pick : FnScope ["state", "row"] ["state", "row"] (defScope s__law_pick) := ⟨rfl, rfl, rfl, by decide +kernel, rfl, by decide +kernel, by decide +kernel⟩
abbrev s__law_middle : Stmt := top 23
theorem sc__law_middle : FnScope ["peaks", "ghosts", "both"] ["peaks", "ghosts"] (defScope s__law_middle) := ⟨rfl, rfl, rfl, by decide +kernel, rfl, by decide +kernel, by decide +kernel⟩
abbrev s__law_chosen : Stmt := top 24
theorem sc__law_chosen : FnScope ["rule", "peaks", "ghosts"] ["rule", "peaks", "ghosts"] (defScope s__law_chosen) := ⟨rfl, rfl, rfl, by decide +kernel, rfl, by decide +kernel, by decide +kernel⟩
abbrev s__law_gain : Stmt := top 25
theorem sc__law_gain : FnScope ["rule", "peaks", "ghosts", "voter", "best", "spot", "far"] ["rule", "peaks", "ghosts", "voter"] (defScope s__law_gain) := ⟨rfl, rfl, rfl, by decide +kernel, rfl, by decide +kernel, by decide +kernel⟩
abbrev s_law : Stmt := top 26
theorem sc_law : FnScope ["script", "state", "turn", "many", "most", "peaks", "ghosts", "spot", "rule", "voter", "span", "rest", "other", "found", "told", "low", "high", "row", "one", "sums", "more", "nearer", "pair", "odd", "k", "a", "b"] ["script"] (defScope s_law) := ⟨rfl, rfl, rfl, by decide +kernel, rfl, by decide +kernel, by decide +kernel⟩
structure Tx (K : PySem.W.Frag) (mg : Str → Option Value) where
  fd_is_whole : FuncData
  F_is_whole : FunD K "is_whole" "is_whole" (defArgs s_is_whole) (defBody s_is_whole) (defScope s_is_whole) [] [] (He.ga K "is_whole") fd_is_whole
  m_is_whole : mg "is_whole" = some (.ref (He.ga K "is_whole"))
  b_is_whole : Binds K fd_is_whole ["value", "low", "high"] []
  fd_are_peaks : FuncData
  F_are_peaks : FunD K "are_peaks" "are_peaks" (defArgs s_are_peaks) (defBody s_are_peaks) (defScope s_are_peaks) [] [] (He.ga K "are_peaks") fd_are_peaks
  m_are_peaks : mg "are_peaks" = some (.ref (He.ga K "are_peaks"))
  b_are_peaks : Binds K fd_are_peaks ["value"] []
  fd_middle : FuncData
  F_middle : FunD K "middle" "middle" (defArgs s_middle) (defBody s_middle) (defScope s_middle) [] [] (He.ga K "middle") fd_middle
  m_middle : mg "middle" = some (.ref (He.ga K "middle"))
  b_middle : Binds K fd_middle ["peaks", "ghosts"] []
  fd_are_ghosts : FuncData
  F_are_ghosts : FunD K "are_ghosts" "are_ghosts" (defArgs s_are_ghosts) (defBody s_are_ghosts) (defScope s_are_ghosts) [] [] (He.ga K "are_ghosts") fd_are_ghosts
  m_are_ghosts : mg "are_ghosts" = some (.ref (He.ga K "are_ghosts"))
  b_are_ghosts : Binds K fd_are_ghosts ["peaks", "value"] []
  fd_mean : FuncData
  F_mean : FunD K "mean" "mean" (defArgs s_mean) (defBody s_mean) (defScope s_mean) [] [] (He.ga K "mean") fd_mean
  m_mean : mg "mean" = some (.ref (He.ga K "mean"))
  b_mean : Binds K fd_mean ["peaks"] []
  fd_ends : FuncData
  F_ends : FunD K "ends" "ends" (defArgs s_ends) (defBody s_ends) (defScope s_ends) [] [] (He.ga K "ends") fd_ends
  m_ends : mg "ends" = some (.ref (He.ga K "ends"))
  b_ends : Binds K fd_ends ["peaks"] []
  fd_chosen : FuncData
  F_chosen : FunD K "chosen" "chosen" (defArgs s_chosen) (defBody s_chosen) (defScope s_chosen) [] [] (He.ga K "chosen") fd_chosen
  m_chosen : mg "chosen" = some (.ref (He.ga K "chosen"))
  b_chosen : Binds K fd_chosen ["rule", "peaks", "ghosts"] []
  fd_told_otherwise : FuncData
  F_told_otherwise : FunD K "told_otherwise" "told_otherwise" (defArgs s_told_otherwise) (defBody s_told_otherwise) (defScope s_told_otherwise) [] [] (He.ga K "told_otherwise") fd_told_otherwise
  m_told_otherwise : mg "told_otherwise" = some (.ref (He.ga K "told_otherwise"))
  b_told_otherwise : Binds K fd_told_otherwise ["peaks", "voter", "spot"] []
  fd_gain : FuncData
  F_gain : FunD K "gain" "gain" (defArgs s_gain) (defBody s_gain) (defScope s_gain) [] [] (He.ga K "gain") fd_gain
  m_gain : mg "gain" = some (.ref (He.ga K "gain"))
  b_gain : Binds K fd_gain ["rule", "peaks", "ghosts", "voter"] []
  fd_gainer : FuncData
  F_gainer : FunD K "gainer" "gainer" (defArgs s_gainer) (defBody s_gainer) (defScope s_gainer) [] [] (He.ga K "gainer") fd_gainer
  m_gainer : mg "gainer" = some (.ref (He.ga K "gainer"))
  b_gainer : Binds K fd_gainer ["rule", "peaks", "ghosts"] []
  fd_reach : FuncData
  F_reach : FunD K "reach" "reach" (defArgs s_reach) (defBody s_reach) (defScope s_reach) [] [] (He.ga K "reach") fd_reach
  m_reach : mg "reach" = some (.ref (He.ga K "reach"))
  b_reach : Binds K fd_reach ["peaks", "ghosts", "voter"] []
  fd_nearest : FuncData
  F_nearest : FunD K "nearest" "nearest" (defArgs s_nearest) (defBody s_nearest) (defScope s_nearest) [] [] (He.ga K "nearest") fd_nearest
  m_nearest : mg "nearest" = some (.ref (He.ga K "nearest"))
  b_nearest : Binds K fd_nearest ["spot", "span"] []
  fd_beaten : FuncData
  F_beaten : FunD K "beaten" "beaten" (defArgs s_beaten) (defBody s_beaten) (defScope s_beaten) [] [] (He.ga K "beaten") fd_beaten
  m_beaten : mg "beaten" = some (.ref (He.ga K "beaten"))
  b_beaten : Binds K fd_beaten ["peaks", "spot", "other"] []
  fd_unbeaten : FuncData
  F_unbeaten : FunD K "unbeaten" "unbeaten" (defArgs s_unbeaten) (defBody s_unbeaten) (defScope s_unbeaten) [] [] (He.ga K "unbeaten") fd_unbeaten
  m_unbeaten : mg "unbeaten" = some (.ref (He.ga K "unbeaten"))
  b_unbeaten : Binds K fd_unbeaten ["peaks"] []
  fd_distances : FuncData
  F_distances : FunD K "distances" "distances" (defArgs s_distances) (defBody s_distances) (defScope s_distances) [] [] (He.ga K "distances") fd_distances
  m_distances : mg "distances" = some (.ref (He.ga K "distances"))
  b_distances : Binds K fd_distances ["peaks", "spot"] []
  fd_two_spots : FuncData
  F_two_spots : FunD K "two_spots" "two_spots" (defArgs s_two_spots) (defBody s_two_spots) (defScope s_two_spots) [] [] (He.ga K "two_spots") fd_two_spots
  m_two_spots : mg "two_spots" = some (.ref (He.ga K "two_spots"))
  b_two_spots : Binds K fd_two_spots ["peaks"] []
  fd__law_state : FuncData
  F__law_state : FunD K "_law_state" "_law_state" (defArgs s__law_state) (defBody s__law_state) (defScope s__law_state) [] [] (He.ga K "_law_state") fd__law_state
  m__law_state : mg "_law_state" = some (.ref (He.ga K "_law_state"))
  b__law_state : Binds K fd__law_state ["script"] []
  fd__law_take : FuncData
  F__law_take : FunD K "_law_take" "_law_take" (defArgs s__law_take) (defBody s__law_take) (defScope s__law_take) [] [] (He.ga K "_law_take") fd__law_take
  m__law_take : mg "_law_take" = some (.ref (He.ga K "_law_take"))
  b__law_take : Binds K fd__law_take ["state", "most"] []
  fd__law_pick : FuncData
  F__law_pick : FunD K "_law_pick" "_law_pick" (defArgs s__law_pick) (defBody s__law_pick) (defScope s__law_pick) [] [] (He.ga K "_law_pick") fd__law_pick
  m__law_pick : mg "_law_pick" = some (.ref (He.ga K "_law_pick"))
  b__law_pick : Binds K fd__law_pick ["state", "row"] []
  fd__law_middle : FuncData
  F__law_middle : FunD K "_law_middle" "_law_middle" (defArgs s__law_middle) (defBody s__law_middle) (defScope s__law_middle) [] [] (He.ga K "_law_middle") fd__law_middle
  m__law_middle : mg "_law_middle" = some (.ref (He.ga K "_law_middle"))
  b__law_middle : Binds K fd__law_middle ["peaks", "ghosts"] []
  fd__law_chosen : FuncData
  F__law_chosen : FunD K "_law_chosen" "_law_chosen" (defArgs s__law_chosen) (defBody s__law_chosen) (defScope s__law_chosen) [] [] (He.ga K "_law_chosen") fd__law_chosen
  m__law_chosen : mg "_law_chosen" = some (.ref (He.ga K "_law_chosen"))
  b__law_chosen : Binds K fd__law_chosen ["rule", "peaks", "ghosts"] []
  fd__law_gain : FuncData
  F__law_gain : FunD K "_law_gain" "_law_gain" (defArgs s__law_gain) (defBody s__law_gain) (defScope s__law_gain) [] [] (He.ga K "_law_gain") fd__law_gain
  m__law_gain : mg "_law_gain" = some (.ref (He.ga K "_law_gain"))
  b__law_gain : Binds K fd__law_gain ["rule", "peaks", "ghosts", "voter"] []
  fd_law : FuncData
  F_law : FunD K "law" "law" (defArgs s_law) (defBody s_law) (defScope s_law) [] [] (He.ga K "law") fd_law
  m_law : mg "law" = some (.ref (He.ga K "law"))
  b_law : Binds K fd_law ["script"] []
  i_MOST_SPOT : ∃ t, mg "MOST_SPOT" = some (.int 1000 t)
  z_abs : mg "abs" = none
  z_all : mg "all" = none
  z_bool : mg "bool" = none
  z_int : mg "int" = none
  z_isinstance : mg "isinstance" = none
  z_len : mg "len" = none
  z_list : mg "list" = none
  z_max : mg "max" = none
  z_min : mg "min" = none
  z_range : mg "range" = none
  z_set : mg "set" = none
  z_sorted : mg "sorted" = none
  z_sum : mg "sum" = none
  z_tuple : mg "tuple" = none
section
variable {P : Program} {w : World} {K : PySem.W.Frag} {mg : Str → Option Value} {base : Heap}
def rd_is_whole : DS :=
  dRet (dAndV (dIsi PyData.isInt (dVar 0)) (dAndV (dNotV (dIsi PyData.isBool (dVar 0))) (dChain leD leD (dVar 1) (dVar 0) (dVar 2))))
def wp_is_whole : Sd := wpOf 3 rd_is_whole
set_option maxHeartbeats 4000000 in
theorem ok_is_whole (T : Tx K mg) : FnOk P w K mg base CX0 1 (He.ga K "is_whole") T.fd_is_whole ["value", "low", "high"] (spD K 3 wp_is_whole) := fn_dataD T.F_is_whole sc_is_whole fun cdv A outer s H E hr => by
  have hu := hu_room hr
  have hu1 := hu1_room hr
  exact qss_one (qs_ret (qe_and (qe_isi kT_int (by rfl) T.z_isinstance (by rfl) T.z_int (by decide +kernel) (by decide) (by decide) (qv 0)) (qe_and (qe_not (qe_isi kT_bool (by rfl) T.z_isinstance (by rfl) T.z_bool (by decide +kernel) (by decide) (by decide) (qv 0))) (qe_one (qe_chain (od_le hu1) (od_le hu1) (qv 1) (qv 0) (qv 2))))))
def rd_middle : DS :=
  dSeq (dSet 2 (dCB sortedA (dCons (dOp addD (dVar 0) (dVar 1)) (dNil))))
  (dRet (dOp ixD (dVar 2) (dOp subD (dCB lenD (dCons (dVar 0) (dNil))) (dC (.int 1)))))
def wp_middle : Sd := wpOf 3 rd_middle
set_option maxHeartbeats 4000000 in
theorem ok_middle (T : Tx K mg) : FnOk P w K mg base CX0 1 (He.ga K "middle") T.fd_middle ["peaks", "ghosts"] (spD K 2 wp_middle) := fn_dataD T.F_middle sc_middle fun cdv A outer s H E hr => by
  have hu := hu_room hr
  have hu1 := hu1_room hr
  exact qss_cons (qs_set (i := 2) sc_middle.nd rfl (by first | exact Or.inl rfl | exact Or.inr rfl) (qe_callB (cd_sortedA hu) (by rfl) T.z_sorted (by decide +kernel) (qa_cons (qe_op od_add (qv 0) (qv 1)) (qa_nil))))
      (qss_one (qs_ret (qe_ix (qv 2) (qe_op od_sub (qe_callB cd_len (by rfl) T.z_len (by decide +kernel) (qa_cons (qv 0) (qa_nil))) (qe_int)) (fun _ _ => rfl))))
def rd_mean : DS :=
  dRet (dOp fdivD (dCB sumD (dCons (dVar 0) (dNil))) (dCB lenD (dCons (dVar 0) (dNil))))
def wp_mean : Sd := wpOf 1 rd_mean
set_option maxHeartbeats 4000000 in
theorem ok_mean (T : Tx K mg) : FnOk P w K mg base CX0 1 (He.ga K "mean") T.fd_mean ["peaks"] (spD K 1 wp_mean) := fn_dataD T.F_mean sc_mean fun cdv A outer s H E hr => by
  have hu := hu_room hr
  have hu1 := hu1_room hr
  exact qss_one (qs_ret (qe_op od_fdiv (qe_callB (cd_sum (by rfl)) (by rfl) T.z_sum (by decide +kernel) (qa_cons (qv 0) (qa_nil))) (qe_callB cd_len (by rfl) T.z_len (by decide +kernel) (qa_cons (qv 0) (qa_nil)))))
def rd_ends : DS :=
  dRet (dOp fdivD (dOp addD (dCB minL (dCons (dVar 0) (dNil))) (dCB maxL (dCons (dVar 0) (dNil)))) (dC (.int 2)))
def wp_ends : Sd := wpOf 1 rd_ends
set_option maxHeartbeats 4000000 in
theorem ok_ends (T : Tx K mg) : FnOk P w K mg base CX0 1 (He.ga K "ends") T.fd_ends ["peaks"] (spD K 1 wp_ends) := fn_dataD T.F_ends sc_ends fun cdv A outer s H E hr => by
  have hu := hu_room hr
  have hu1 := hu1_room hr
  exact qss_one (qs_ret (qe_op od_fdiv (qe_op od_add (qe_callB (cd_minL (by rfl) hu) (by rfl) T.z_min (by decide +kernel) (qa_cons (qv 0) (qa_nil))) (qe_callB (cd_maxL (by rfl) hu) (by rfl) T.z_max (by decide +kernel) (qa_cons (qv 0) (qa_nil)))) (qe_int)))
def rd_told_otherwise : DS :=
  dRet (dOp addD (dOp addD (dSl (dVar 0) (dNo) (dPart (dVar 1))) (dTup (dCons (dVar 2) (dNil)))) (dSl (dVar 0) (dPart (dOp addD (dVar 1) (dC (.int 1)))) (dNo)))
def wp_told_otherwise : Sd := wpOf 3 rd_told_otherwise
set_option maxHeartbeats 4000000 in
theorem ok_told_otherwise (T : Tx K mg) : FnOk P w K mg base CX0 1 (He.ga K "told_otherwise") T.fd_told_otherwise ["peaks", "voter", "spot"] (spD K 3 wp_told_otherwise) := fn_dataD T.F_told_otherwise sc_told_otherwise fun cdv A outer s H E hr => by
  have hu := hu_room hr
  have hu1 := hu1_room hr
  exact qss_one (qs_ret (qe_op od_add (qe_op od_add (qe_slice (qv 0) (qo_none) (qo_some (qv 1))) (qe_tup (qa_cons (qv 2) (qa_nil)))) (qe_slice (qv 0) (qo_some (qe_op od_add (qv 1) (qe_int))) (qo_none))))
def rd_nearest : DS :=
  dRet (dCB max2D (dCons (dOp ixD (dVar 1) (dC (.int 0))) (dCons (dCB min2D (dCons (dOp ixD (dVar 1) (dC (.int 1))) (dCons (dVar 0) (dNil)))) (dNil))))
def wp_nearest : Sd := wpOf 2 rd_nearest
set_option maxHeartbeats 4000000 in
theorem ok_nearest (T : Tx K mg) : FnOk P w K mg base CX0 1 (He.ga K "nearest") T.fd_nearest ["spot", "span"] (spD K 2 wp_nearest) := fn_dataD T.F_nearest sc_nearest fun cdv A outer s H E hr => by
  have hu := hu_room hr
  have hu1 := hu1_room hr
  exact qss_one (qs_ret (qe_callB (cd_max2 (by rfl)) (by rfl) T.z_max (by decide +kernel) (qa_cons (qe_ix (qv 1) (qe_int) (fun _ _ => rfl)) (qa_cons (qe_callB (cd_min2 (by rfl)) (by rfl) T.z_min (by decide +kernel) (qa_cons (qe_ix (qv 1) (qe_int) (fun _ _ => rfl)) (qa_cons (qv 0) (qa_nil)))) (qa_nil)))))
def rd_beaten : DS :=
  dSeq (dSet 3 (dCB lenD (dCons (dComp (dSeqI (dVar 0)) (gN 4) (dTest (dOp ltD (dCB absD (dCons (dOp subD (dVar 4) (dVar 2)) (dNil))) (dCB absD (dCons (dOp subD (dVar 4) (dVar 1)) (dNil))))) (dC (.int 1)) [4]) (dNil))))
  (dRet (dOp gtD (dVar 3) (dCB lenD (dCons (dComp (dSeqI (dVar 0)) (gN 4) (dTest (dOp ltD (dCB absD (dCons (dOp subD (dVar 4) (dVar 1)) (dNil))) (dCB absD (dCons (dOp subD (dVar 4) (dVar 2)) (dNil))))) (dC (.int 1)) [4]) (dNil)))))
def wp_beaten : Sd := wpOf 5 rd_beaten
set_option maxHeartbeats 4000000 in
theorem ok_beaten (T : Tx K mg) : FnOk P w K mg base CX0 1 (He.ga K "beaten") T.fd_beaten ["peaks", "spot", "other"] (spD K 3 wp_beaten) := fn_dataD T.F_beaten sc_beaten fun cdv A outer s H E hr => by
  have hu := hu_room hr
  have hu1 := hu1_room hr
  exact qss_cons (qs_set (i := 3) sc_beaten.nd rfl (by first | exact Or.inl rfl | exact Or.inr rfl) (qe_callB cd_len (by rfl) T.z_len (by decide +kernel) (qa_cons (qe_lc (own := [("one", 4)]) (by rfl) sc_beaten.nd (qi_seq (qv 0)) (blkOk_by (by kernel_rfl)) (by rfl) (fun _ _ _ _ _ => qg_name (i := 4) sc_beaten.nd rfl (by first | exact Or.inl rfl | exact Or.inr rfl)) (fun _ _ _ _ _ => qts_one (qt_cmp (od_lt hu1) (qe_callB cd_abs (by rfl) T.z_abs (by decide +kernel) (qa_cons (qe_op od_sub (qv 4) (qv 2)) (qa_nil))) (qe_callB cd_abs (by rfl) T.z_abs (by decide +kernel) (qa_cons (qe_op od_sub (qv 4) (qv 1)) (qa_nil))) (nomark _))) (fun _ _ _ _ _ => qe_int)) (qa_nil))))
      (qss_one (qs_ret (qe_cmp (od_gt hu1) (qv 3) (qe_callB cd_len (by rfl) T.z_len (by decide +kernel) (qa_cons (qe_lc (own := [("one", 4)]) (by rfl) sc_beaten.nd (qi_seq (qv 0)) (blkOk_by (by kernel_rfl)) (by rfl) (fun _ _ _ _ _ => qg_name (i := 4) sc_beaten.nd rfl (by first | exact Or.inl rfl | exact Or.inr rfl)) (fun _ _ _ _ _ => qts_one (qt_cmp (od_lt hu1) (qe_callB cd_abs (by rfl) T.z_abs (by decide +kernel) (qa_cons (qe_op od_sub (qv 4) (qv 1)) (qa_nil))) (qe_callB cd_abs (by rfl) T.z_abs (by decide +kernel) (qa_cons (qe_op od_sub (qv 4) (qv 2)) (qa_nil))) (nomark _))) (fun _ _ _ _ _ => qe_int)) (qa_nil))) (nomark _))))
def rd_unbeaten : DS :=
  dSeq (dSet 1 (dCB sortedA (dCons (dVar 0) (dNil))))
  (dRet (dTup (dCons (dOp ixD (dVar 1) (dOp fdivD (dOp subD (dCB lenD (dCons (dVar 1) (dNil))) (dC (.int 1))) (dC (.int 2)))) (dCons (dOp ixD (dVar 1) (dOp fdivD (dCB lenD (dCons (dVar 1) (dNil))) (dC (.int 2)))) (dNil)))))
def wp_unbeaten : Sd := wpOf 2 rd_unbeaten
set_option maxHeartbeats 4000000 in
theorem ok_unbeaten (T : Tx K mg) : FnOk P w K mg base CX0 1 (He.ga K "unbeaten") T.fd_unbeaten ["peaks"] (spD K 1 wp_unbeaten) := fn_dataD T.F_unbeaten sc_unbeaten fun cdv A outer s H E hr => by
  have hu := hu_room hr
  have hu1 := hu1_room hr
  exact qss_cons (qs_set (i := 1) sc_unbeaten.nd rfl (by first | exact Or.inl rfl | exact Or.inr rfl) (qe_callB (cd_sortedA hu) (by rfl) T.z_sorted (by decide +kernel) (qa_cons (qv 0) (qa_nil))))
      (qss_one (qs_ret (qe_tup (qa_cons (qe_ix (qv 1) (qe_op od_fdiv (qe_op od_sub (qe_callB cd_len (by rfl) T.z_len (by decide +kernel) (qa_cons (qv 1) (qa_nil))) (qe_int)) (qe_int)) (fun _ _ => rfl)) (qa_cons (qe_ix (qv 1) (qe_op od_fdiv (qe_callB cd_len (by rfl) T.z_len (by decide +kernel) (qa_cons (qv 1) (qa_nil))) (qe_int)) (fun _ _ => rfl)) (qa_nil))))))
def rd_distances : DS :=
  dRet (dCB sumD (dCons (dComp (dSeqI (dVar 0)) (gN 2) (dYes) (dCB absD (dCons (dOp subD (dVar 2) (dVar 1)) (dNil))) [2]) (dNil)))
def wp_distances : Sd := wpOf 3 rd_distances
set_option maxHeartbeats 4000000 in
theorem ok_distances (T : Tx K mg) : FnOk P w K mg base CX0 1 (He.ga K "distances") T.fd_distances ["peaks", "spot"] (spD K 2 wp_distances) := fn_dataD T.F_distances sc_distances fun cdv A outer s H E hr => by
  have hu := hu_room hr
  have hu1 := hu1_room hr
  exact qss_one (qs_ret (qe_callB (cd_sum (by rfl)) (by rfl) T.z_sum (by decide +kernel) (qa_cons (qe_lc (own := [("one", 2)]) (by rfl) sc_distances.nd (qi_seq (qv 0)) (blkOk_by (by kernel_rfl)) (by rfl) (fun _ _ _ _ _ => qg_name (i := 2) sc_distances.nd rfl (by first | exact Or.inl rfl | exact Or.inr rfl)) (fun _ _ _ _ _ => qts_nil) (fun _ _ _ _ _ => qe_callB cd_abs (by rfl) T.z_abs (by decide +kernel) (qa_cons (qe_op od_sub (qv 2) (qv 1)) (qa_nil)))) (qa_nil))))
set_option maxHeartbeats 4000000 in
theorem ok__law_state (T : Tx K mg) : FnOk P w K mg base CX0 1 (He.ga K "_law_state") T.fd__law_state ["script"] (spState K) := by
  refine T.F__law_state.ok sc__law_state (fun vs H Q E ⟨s, ns, e, _⟩ => by rw [e]; rfl) (fun cdv A outer s H vs Q E hr h => ⟨_, PSs.nox
    (pss_cons (ps_setLc (i := 1) (own := [("cell", 2)]) (by rfl) sc__law_state.nd rfl rfl (sw_true rfl rfl rfl (by decide +kernel)) (pi_list (pe_slice sl_list (pv 0) po_none (po_some pe_int))) (blkOk_by (by kernel_rfl))
      (fun _ _ _ _ _ => pg_name (i := 2) sc__law_state.nd rfl (by first | exact Or.inl rfl | exact Or.inr rfl)) (fun _ _ _ _ _ => pts_nil) (fun _ _ _ _ _ => pe_callB call_abs (by rfl) T.z_abs (by decide +kernel) (pa_cons (pv 2) pa_nil)))
    (pss_cons (ps_if (pt_cmpR op_eq (pe_callB call_len_seq (by rfl) T.z_len (by decide +kernel) (pa_cons (pv 1) pa_nil)) pe_int (nomark _)) (pss_one (ps_set (i := 1) sc__law_state.nd rfl (by first | exact Or.inl rfl | exact Or.inr rfl) (pe_lst (pa_cons pe_int pa_nil)))) pss_nil)
    (pss_one (ps_ret (pe_lst (pa_cons pe_int (pa_cons (pv 1) pa_nil))))))), ?_⟩)
  obtain ⟨a, ns, rfl, hs, hl, q⟩ := h
  have hcut : cutV (ns.map V.int) none (some 63) = ns.map V.int := by
    have e1 : HT.sIx (ns.map V.int).length (ns.map V.int).length (some 63) = (ns.map V.int).length := by
      refine (HT.sIx_nat _ _ 63).trans ?_
      rw [List.length_map]; omega
    unfold cutV
    rw [HT.sIx_none, e1, Nat.sub_zero, List.drop_zero]
    exact List.take_length
  let ca : Int → Int := fun i => if i < 0 then -i else i
  refine ⟨.ref a, rfl, 63, rfl, a, ns.map V.int, rfl, hs, fun p hp => ⟨p, rfl, ⟨_, SqL.of upd_same⟩, fun D hD => ?_⟩⟩
  rw [hcut] at hD
  rw [hcut]
  have hDp : D ≠ p := by
    rintro rfl
    rw [upd_same] at hD; cases hD
  have hDH : H D = none := by rw [upd_ne hDp] at hD; exact hD
  refine ⟨fun i m H' => i ≤ ns.length ∧ m = ns.length - i ∧ H' = upd (upd H p (.lst (ns.map V.int))) D (.lst ((ns.take i).map fun x => V.int (ca x))), ⟨_, Nat.zero_le _, rfl, by simp⟩, fun i m H' ⟨hi, hm, hH⟩ => ?_⟩
  have hsp : SqL K H' p (ns.map V.int) := SqL.of (by rw [hH, upd_ne (Ne.symm hDp), upd_same])
  have hDl : H' D = some (.lst ((ns.take i).map fun x => V.int (ca x))) := by rw [hH, upd_same]
  by_cases he : i = ns.length
  · refine .inl ⟨⟨_, hsp, by rw [List.length_map]; omega⟩, ?_⟩
    have hDl : H' D = some (.lst ((ns.map ca).map V.int)) := by
      rw [hDl, he, List.take_length, List.map_map]; rfl
    have hfr : ∀ b, H' b = none → H b = none := fun b hb => by
      rw [hH] at hb
      have b1 : b ≠ D := by rintro rfl; rw [upd_same] at hb; cases hb
      rw [upd_ne b1] at hb
      have b2 : b ≠ p := by rintro rfl; rw [upd_same] at hb; cases hb
      rwa [upd_ne b2] at hb
    have hsm : Same H H' := by
      rw [hH]
      exact fun b o e => by
        have b1 : b ≠ D := by rintro rfl; rw [hDH] at e; cases e
        have b2 : b ≠ p := by rintro rfl; rw [hp] at e; cases e
        rw [upd_ne b1, upd_ne b2]; exact e
    have hn0 : ∀ n ∈ ns.map ca, 0 ≤ n := fun n hn => by
      obtain ⟨x, _, rfl⟩ := List.mem_map.mp hn
      show 0 ≤ if x < 0 then -x else x
      split <;> omega
    -- the pair is made
    have fin : ∀ (H2 : Hp) (c : Addr) (ms : List Int), Same H H2 → (∀ b, H2 b = none → H b = none) → H c = none → H2 c = some (.lst (ms.map V.int)) → ms ≠ [] → (∀ n ∈ ms, 0 ≤ n) → ms.length ≤ 63 → ∀ b, H2 b = none → Q (.ref b) (upd H2 b (.lst [V.int 0, V.ref c])) := fun H2 c ms s1 s2 h0 h1 h2 h3 h4 b hb => by
      have hbc : c ≠ b := by rintro rfl; rw [h1] at hb; cases hb
      refine q b c _ (s2 b hb) h0 ?_ ⟨0, ms, Int.le_refl 0, h2, h3, h4, upd_same, by rw [upd_ne hbc]; exact h1⟩
      exact fun x o e => by
        have : x ≠ b := by rintro rfl; rw [s2 x hb] at e; cases e
        rw [upd_ne this]; exact s1 x o e
    refine ⟨_, rfl, D, _, rfl, .inl (SqL.of hDl), rfl, _, rfl, ite2 (fun h1 => ?_) (fun h1 => ?_)⟩
    · have h1 : V.int ((((ns.map ca).map V.int).length : Nat) : Int) = V.int 0 := of_decide_eq_true h1
      refine ⟨show 1 ≤ sizeLine by decide, fun c hc => ⟨.ref c, rfl, show 2 ≤ sizeLine by decide, fun b hb => ?_⟩⟩
      refine fin (upd H' c (.lst [V.int 0])) c [0] ?_ ?_ (hfr c hc) upd_same (by decide) (by decide) (by decide) b hb
      · exact fun x o e => by
          have : x ≠ c := by rintro rfl; rw [hfr x hc] at e; cases e
          rw [upd_ne this]; exact hsm x o e
      · intro x hx
        have : x ≠ c := by rintro rfl; rw [upd_same] at hx; cases hx
        rw [upd_ne this] at hx; exact hfr x hx
    · have h1 : V.int ((((ns.map ca).map V.int).length : Nat) : Int) ≠ V.int 0 := fun z => h1 (decide_eq_true z)
      refine ⟨.ref D, rfl, show 2 ≤ sizeLine by decide, fun b hb => ?_⟩
      refine fin H' D (ns.map ca) hsm hfr hDH hDl ?_ hn0 (by rw [List.length_map]; exact hl) b hb
      intro z
      rw [z] at h1
      exact h1 rfl
  · have hi2 : i < ns.length := by omega
    refine .inr ⟨⟨_, .int ns[i], hsp, by rw [List.getElem?_map, List.getElem?_eq_getElem hi2]; rfl⟩, fun H2 => i + 1 ≤ ns.length ∧ H2 = upd (upd H p (.lst (ns.map V.int))) D (.lst ((ns.take (i + 1)).map fun x => V.int (ca x))), fun H2 ⟨a1, a2⟩ => ⟨_, ?_, a1, rfl, a2⟩, fun x H2 ⟨e, hx⟩ => ?_⟩
    · omega
    · subst e
      have hx := (hx _ hsp).symm.trans (show (ns.map V.int)[i]? = some (.int ns[i]) by rw [List.getElem?_map, List.getElem?_eq_getElem hi2]; rfl)
      cases hx
      refine ⟨rfl, .int ns[i], rfl, ns[i], rfl, _, hDl, by rw [List.length_map, List.length_take]; exact Nat.lt_of_le_of_lt (Nat.min_le_right _ _) (Nat.lt_of_le_of_lt hl (by decide)), hi2, ?_⟩
      rw [hH, upd_upd]
      congr 2
      rw [List.take_succ, List.getElem?_eq_getElem hi2, List.map_append]
      rfl

def wp__law_take : Sd := wpTake
theorem sh_take (m : Int) (hm : 2 ≤ m) (z : Int) : 0 ≤ z % m ∧ z % m < max m 1 := by
  have h1 := Int.emod_nonneg z (show m ≠ 0 by omega)
  have h2 := Int.emod_lt_of_pos z (show 0 < m by omega)
  omega
set_option maxHeartbeats 4000000 in
theorem ok__law_take (T : Tx K mg) : FnOk P w K mg base CX0 1 (He.ga K "_law_take") T.fd__law_take ["state", "most"] (spD K 2 wp__law_take) := by
  refine T.F__law_take.ok sc__law_take (fun vs H Q E h => h.1) (fun cdv A outer s H vs Q E hr h => ⟨_, PSs.nox
    (pss_cons (ps_if (pt_cmpR op_lt (pv 1) pe_int (nomark _)) (pss_one (ps_ret pe_int)) pss_nil)
    (pss_cons (ps_set (i := 2) sc__law_take.nd rfl (.inl rfl) (pe_ix ix_list (pv 0) pe_int (fun _ _ => rfl)))
    (pss_cons (ps_set (i := 3) sc__law_take.nd rfl (.inl rfl) (pe_op op_mod (pe_callTy call_int1 (by rfl) T.z_int (by decide +kernel) (pa_cons (pe_ix ix_list (pv 0) pe_int (fun _ _ => rfl)) pa_nil)) (pe_callB call_len_seq (by rfl) T.z_len (by decide +kernel) (pa_cons (pv 2) pa_nil))))
    (pss_cons (ps_set (i := 4) sc__law_take.nd rfl (.inl rfl) (pe_ix ix_list (pv 2) (pv 3) (fun _ _ => rfl)))
    (pss_cons (ps_if (pt_cmpR op_ge (pv 4) pe_int (nomark _)) (pss_cons (ps_asg (pe_op op_fdivW (pv 4) (pv 1)) (pg_sub (pv 2) (pv 3) set_list)) (pss_one (ps_ret (pe_op op_mod (pe_callTy call_int1 (by rfl) T.z_int (by decide +kernel) (pa_cons (pv 4) pa_nil)) (pv 1))))) pss_nil)
    (pss_cons (ps_asg (pe_op op_add (pe_ix ix_list (pv 0) pe_int (fun _ _ => rfl)) pe_int) (pg_sub (pv 0) pe_int set_list))
    (pss_cons (ps_set (i := 5) sc__law_take.nd rfl (.inl rfl) (pe_op op_mod (pe_callTy call_int1 (by rfl) T.z_int (by decide +kernel) (pa_cons (pe_op op_add (pe_op op_mul (pv 4) pe_int) (pe_op op_mul (pe_ix ix_list (pv 0) pe_int (fun _ _ => rfl)) pe_int)) pa_nil)) pe_int))
    (pss_cons (ps_set (i := 5) sc__law_take.nd rfl (.inl rfl) (pe_op op_mod (pe_callTy call_int1 (by rfl) T.z_int (by decide +kernel) (pa_cons (pe_op op_add (pe_op op_mul (pv 5) pe_int) (pe_op op_mul (pe_ix ix_list (pv 0) pe_int (fun _ _ => rfl)) pe_int)) pa_nil)) pe_int))
    (pss_one (ps_ret (pe_op op_mod (pe_callTy call_int1 (by rfl) T.z_int (by decide +kernel) (pa_cons (pe_op op_fdiv (pv 5) pe_int) pa_nil)) (pv 1)))))))))))), ?_⟩)
  obtain ⟨hl, w, es, P, r, er, ⟨m, rfl, hm, hw0⟩, q⟩ := h
  have hw : ∀ r : Int, 0 ≤ r → r < max m 1 → P (.int r) := fun r a b => hw0 _ ⟨r, rfl, a, b⟩
  cases er with
  | cons e1 er =>
    cases er with
    | cons e2 er =>
      cases er
      obtain ⟨rfl, sw⟩ := e1
      rename_i v2
      have e2 : v2 = V.int m := Rp.int_inv e2
      subst e2
      obtain ⟨c, i, ns, ok, ma, mc, f1, f2⟩ := sw.get H r
      -- what a step of ours gives
      have fin : ∀ (z : Int) (H' : Hp), 2 ≤ m → w.R H' → (∀ b, b ∉ w.Z → H' b = H b) → Q (.int (z % m)) H' := fun z H' h2 hR hs =>
        q _ _ _ (hw _ (sh_take m h2 z).1 (sh_take m h2 z).2) ⟨fun b o e => by
          rw [off_some] at e ⊢
          exact ⟨e.1, by rw [hs b e.1]; exact e.2⟩, hR⟩ (.int _)
      refine ⟨.int m, rfl, m, 2, rfl, rfl, _, rfl, ite2 (fun h2 => ?_) (fun h2 => ?_)⟩
      · have h2 : m < 2 := of_decide_eq_true h2
        exact q _ _ _ (hw 0 (by omega) (by omega)) (Stp.refl r) (.int 0)
      · have h2 : 2 ≤ m := by
          have : ¬ m < 2 := fun z => h2 (decide_eq_true z)
          omega
        have hne : 0 < ns.length := by
          cases ns with
          | nil => exact absurd rfl ok.ne
          | cons a b => simp
        have hk := Int.emod_nonneg i (show (ns.length : Int) ≠ 0 by omega)
        have hk2 := Int.emod_lt_of_pos i (show (0 : Int) < ns.length by omega)
        have hlm : (ns.map V.int).length = ns.length := List.length_map ..
        obtain ⟨j, hj⟩ : ∃ j : Nat, i % (ns.length : Int) = j := ⟨(i % (ns.length : Int)).toNat, by omega⟩
        have hjl : j < ns.length := by omega
        have hget : (ns.map V.int)[j]? = some (.int ns[j]) := by rw [List.getElem?_map, List.getElem?_eq_getElem hjl]; rfl
        have hn0 : 0 ≤ ns[j] := ok.n0 _ (List.getElem_mem hjl)
        have at0 : atI [V.int i, V.ref c] 0 = some (V.int i) := atI_nat (j := 0) rfl
        have at1 : atI [V.int i, V.ref c] 1 = some (V.ref c) := atI_nat (j := 1) rfl
        have hac := ok.ac
        refine ⟨.ref w.st, rfl, w.st, _, 1, .ref c, rfl, rfl, SqL.of ok.ha, at1, ?_⟩
        refine ⟨.ref w.st, rfl, w.st, _, 0, .int i, rfl, rfl, SqL.of ok.ha, at0, .inl ⟨i, rfl, ?_⟩⟩
        refine ⟨.ref c, rfl, c, _, rfl, .inl (SqL.of ok.hc), ?_⟩
        refine ⟨i, ((ns.map V.int).length : Nat), rfl, rfl, by rw [hlm]; omega, ?_⟩
        refine ⟨.ref c, rfl, .int (i % ((ns.map V.int).length : Nat)), rfl, c, _, i % ((ns.map V.int).length : Nat), .int ns[j], rfl, rfl, SqL.of ok.hc, by rw [hlm, hj]; exact atI_nat hget, ?_⟩
        refine ⟨.int ns[j], rfl, ns[j], 1000000000000000000, rfl, rfl, _, rfl, ite2 (fun h3 => ?_) (fun h3 => ?_)⟩
        · -- a great cell
          refine ⟨.int ns[j], rfl, .int m, rfl, ns[j], m, rfl, rfl, ⟨by omega, ?_⟩, ?_⟩
          · have h5 : m.natAbs < 2 ^ 62 := by omega
            have := PySem.Flt.log2_lt_of (by decide : 0 < 62) h5
            omega
          · refine ⟨.ref c, rfl, .int (i % ((ns.map V.int).length : Nat)), rfl, c, ns.map V.int, i % ((ns.map V.int).length : Nat), j, rfl, rfl, ok.hc, ?_, ?_⟩
            · rw [hlm, hj]
              unfold ixN
              rw [if_pos (by omega), if_pos (by omega)]
              simp
            · refine ⟨.int ns[j], rfl, .inl ⟨ns[j], rfl, .int m, rfl, ns[j], m, rfl, rfl, by omega, ?_⟩⟩
              refine fin _ _ h2 ?_ (fun b hb => upd_ne fun e => hb (e ▸ mc))
              rw [show (ns.map V.int).set j (V.int (ns[j] / m)) = (ns.set j (ns[j] / m)).map V.int by rw [List.map_set]]
              refine f2 _ (by intro e; have := congrArg List.length e; rw [List.length_set, List.length_nil] at this; omega) (fun n hn => ?_) (by simpa using ok.len)
              rcases List.mem_or_eq_of_mem_set hn with hn | hn
              · exact ok.n0 n hn
              · rw [hn]; exact Int.ediv_nonneg hn0 (by omega)
        · have hR := f1 (i + 1) (by have := ok.i0; omega)
          have eH : ∀ x, upd H w.st (HO.lst [V.int x, V.ref c]) w.st = some (.lst [V.int x, V.ref c]) := fun x => upd_same
          refine ⟨.ref w.st, rfl, w.st, _, 0, .int i, rfl, rfl, SqL.of ok.ha, at0, ?_⟩
          refine ⟨i, 1, rfl, rfl, ?_⟩
          refine ⟨.ref w.st, rfl, w.st, _, 0, 0, rfl, rfl, ok.ha, rfl, ?_⟩
          show tSeq _ _ _ _ (upd H w.st (.lst [V.int (i + 1), V.ref c]))
          have at0' : atI [V.int (i + 1), V.ref c] 0 = some (V.int (i + 1)) := atI_nat (j := 0) rfl
          refine ⟨.int ns[j], rfl, ns[j], 48271, rfl, rfl, .inr (by decide), ?_⟩
          refine ⟨.ref w.st, rfl, w.st, _, 0, .int (i + 1), rfl, rfl, SqL.of (eH _), at0', i + 1, 69621, rfl, rfl, .inr (by decide), _, _, rfl, rfl, .inl ⟨_, rfl, _, 2147483647, rfl, rfl, (show (0 : Int) < 2147483647 by decide), ?_⟩⟩
          refine ⟨_, rfl, _, 16807, rfl, rfl, .inr (by decide), ?_⟩
          refine ⟨.ref w.st, rfl, w.st, _, 0, .int (i + 1), rfl, rfl, SqL.of (eH _), at0', i + 1, 7919, rfl, rfl, .inr (by decide), _, _, rfl, rfl, .inl ⟨_, rfl, _, 1000000007, rfl, rfl, (show (0 : Int) < 1000000007 by decide), ?_⟩⟩
          refine ⟨_, rfl, _, 7, rfl, rfl, ⟨by decide, by decide⟩, .inl ⟨_, rfl, .int m, rfl, _, m, rfl, rfl, by omega, ?_⟩⟩
          exact fin _ _ h2 hR (fun b hb => upd_ne fun e => hb (e ▸ ma))

def rd__law_middle : DS :=
  dSeq (dSet 2 (dCB sortedA (dCons (dOp addD (dCB listD (dCons (dVar 0) (dNil))) (dCB listD (dCons (dVar 1) (dNil)))) (dNil))))
  (dRet (dOp ixD (dVar 2) (dOp fdivD (dCB lenD (dCons (dVar 2) (dNil))) (dC (.int 2)))))
def wp__law_middle : Sd := wpOf 3 rd__law_middle
set_option maxHeartbeats 4000000 in
theorem ok__law_middle (T : Tx K mg) : FnOk P w K mg base CX0 1 (He.ga K "_law_middle") T.fd__law_middle ["peaks", "ghosts"] (spD K 2 wp__law_middle) := fn_dataD T.F__law_middle sc__law_middle fun cdv A outer s H E hr => by
  have hu := hu_room hr
  have hu1 := hu1_room hr
  exact qss_cons (qs_set (i := 2) sc__law_middle.nd rfl (by first | exact Or.inl rfl | exact Or.inr rfl) (qe_callB (cd_sortedA hu) (by rfl) T.z_sorted (by decide +kernel) (qa_cons (qe_op od_add (qe_callTy cd_list (by rfl) T.z_list (by decide +kernel) (qa_cons (qv 0) (qa_nil))) (qe_callTy cd_list (by rfl) T.z_list (by decide +kernel) (qa_cons (qv 1) (qa_nil)))) (qa_nil))))
      (qss_one (qs_ret (qe_ix (qv 2) (qe_op od_fdiv (qe_callB cd_len (by rfl) T.z_len (by decide +kernel) (qa_cons (qv 2) (qa_nil))) (qe_int)) (fun _ _ => rfl))))
def rd_are_peaks : DS :=
  dSeq (dIfS (dOr (dNot (dTest (dIsi PyData.isTuple (dVar 0)))) (dNot (dTest (dChain leD leD (dC (.int 1)) (dCB lenD (dCons (dVar 0) (dNil))) (dC (.int 15)))))) (dRet (dC (.bool false))) (dNext))
  (dRet (dCB allD (dCons (dComp (dSeqI (dVar 0)) (gN 1) (dYes) (dCall wp_is_whole (bCons (dVar 1) (bCons (dC (.int 0)) (bCons (dC (.int 1000)) (bNil))))) [1]) (dNil))))
def wp_are_peaks : Sd := wpOf 2 rd_are_peaks
set_option maxHeartbeats 4000000 in
theorem ok_are_peaks (T : Tx K mg) : FnOk P w K mg base CX0 2 (He.ga K "are_peaks") T.fd_are_peaks ["value"] (spD K 1 wp_are_peaks) := fn_dataD T.F_are_peaks sc_are_peaks fun cdv A outer s H E hr => by
  have hu := hu_room hr
  have hu1 := hu1_room hr
  exact qss_cons (qs_if ((qw_or (qt_not (qt_val (qe_isi kT_tuple (by rfl) T.z_isinstance (by rfl) T.z_tuple (by decide +kernel) (by decide) (by decide) (qv 0)))) (qw_or1 (qt_not (qt_chain (od_le hu1) (od_le hu1) (qe_int) (qe_callB cd_len (by rfl) T.z_len (by decide +kernel) (qa_cons (qv 0) (qa_nil))) (qe_int))))).qt) (qss_one (qs_ret (qe_bl))) (qss_nil))
      (qss_one (qs_ret (qe_callB (cd_all (by rfl)) (by rfl) T.z_all (by decide +kernel) (qa_cons (qe_lc (own := [("one", 1)]) (by rfl) sc_are_peaks.nd (qi_seq (qv 0)) (blkOk_by (by kernel_rfl)) (by rfl) (fun _ _ _ _ _ => qg_name (i := 1) sc_are_peaks.nd rfl (by first | exact Or.inl rfl | exact Or.inr rfl)) (fun _ _ _ _ _ => qts_nil) (fun _ _ _ _ _ => qe_call (ok_is_whole T) (hr.mono (by decide)) (by rfl) T.m_is_whole T.F_is_whole.kp T.b_is_whole pass0 (qb_cons (qv 1) (qb_cons (qe_int) (qb_cons (qe_gint (by rfl) T.i_MOST_SPOT) (qb_nil)))))) (qa_nil)))))
def rd_are_ghosts : DS :=
  dSeq (dIfS (dOr (dNot (dTest (dIsi PyData.isTuple (dVar 1)))) (dTest (dOp neD (dCB lenD (dCons (dVar 1) (dNil))) (dOp subD (dCB lenD (dCons (dVar 0) (dNil))) (dC (.int 1)))))) (dRet (dC (.bool false))) (dNext))
  (dRet (dCB allD (dCons (dComp (dSeqI (dVar 1)) (gN 2) (dYes) (dCall wp_is_whole (bCons (dVar 2) (bCons (dC (.int 0)) (bCons (dC (.int 1000)) (bNil))))) [2]) (dNil))))
def wp_are_ghosts : Sd := wpOf 3 rd_are_ghosts
set_option maxHeartbeats 4000000 in
theorem ok_are_ghosts (T : Tx K mg) : FnOk P w K mg base CX0 2 (He.ga K "are_ghosts") T.fd_are_ghosts ["peaks", "value"] (spD K 2 wp_are_ghosts) := fn_dataD T.F_are_ghosts sc_are_ghosts fun cdv A outer s H E hr => by
  have hu := hu_room hr
  have hu1 := hu1_room hr
  exact qss_cons (qs_if ((qw_or (qt_not (qt_val (qe_isi kT_tuple (by rfl) T.z_isinstance (by rfl) T.z_tuple (by decide +kernel) (by decide) (by decide) (qv 1)))) (qw_or1 (qt_cmp (od_ne hu1) (qe_callB cd_len (by rfl) T.z_len (by decide +kernel) (qa_cons (qv 1) (qa_nil))) (qe_op od_sub (qe_callB cd_len (by rfl) T.z_len (by decide +kernel) (qa_cons (qv 0) (qa_nil))) (qe_int)) (nomark _)))).qt) (qss_one (qs_ret (qe_bl))) (qss_nil))
      (qss_one (qs_ret (qe_callB (cd_all (by rfl)) (by rfl) T.z_all (by decide +kernel) (qa_cons (qe_lc (own := [("one", 2)]) (by rfl) sc_are_ghosts.nd (qi_seq (qv 1)) (blkOk_by (by kernel_rfl)) (by rfl) (fun _ _ _ _ _ => qg_name (i := 2) sc_are_ghosts.nd rfl (by first | exact Or.inl rfl | exact Or.inr rfl)) (fun _ _ _ _ _ => qts_nil) (fun _ _ _ _ _ => qe_call (ok_is_whole T) (hr.mono (by decide)) (by rfl) T.m_is_whole T.F_is_whole.kp T.b_is_whole pass0 (qb_cons (qv 2) (qb_cons (qe_int) (qb_cons (qe_gint (by rfl) T.i_MOST_SPOT) (qb_nil)))))) (qa_nil)))))
def rd_chosen : DS :=
  dSeq (dIfS (dTest (dOp eqD (dVar 0) (dC (.str "middle")))) (dRet (dCall wp_middle (bCons (dVar 1) (bCons (dVar 2) (bNil))))) (dNext))
  (dRet (dIf (dTest (dOp eqD (dVar 0) (dC (.str "mean")))) (dCall wp_mean (bCons (dVar 1) (bNil))) (dCall wp_ends (bCons (dVar 1) (bNil)))))
def wp_chosen : Sd := wpOf 3 rd_chosen
set_option maxHeartbeats 4000000 in
theorem ok_chosen (T : Tx K mg) : FnOk P w K mg base CX0 2 (He.ga K "chosen") T.fd_chosen ["rule", "peaks", "ghosts"] (spD K 3 wp_chosen) := fn_dataD T.F_chosen sc_chosen fun cdv A outer s H E hr => by
  have hu := hu_room hr
  have hu1 := hu1_room hr
  exact qss_cons (qs_if (qt_cmp (od_eq hu1) (qv 0) (qe_str) (nomark _)) (qss_one (qs_ret (qe_call (ok_middle T) (hr.mono (by decide)) (by rfl) T.m_middle T.F_middle.kp T.b_middle pass0 (qb_cons (qv 1) (qb_cons (qv 2) (qb_nil)))))) (qss_nil))
      (qss_one (qs_ret (qe_ifExp (qt_cmp (od_eq hu1) (qv 0) (qe_str) (nomark _)) (qe_call (ok_mean T) (hr.mono (by decide)) (by rfl) T.m_mean T.F_mean.kp T.b_mean pass0 (qb_cons (qv 1) (qb_nil))) (qe_call (ok_ends T) (hr.mono (by decide)) (by rfl) T.m_ends T.F_ends.kp T.b_ends pass0 (qb_cons (qv 1) (qb_nil))))))
def rd_reach : DS :=
  dSeq (dSet 3 (dCall wp_middle (bCons (dCall wp_told_otherwise (bCons (dVar 0) (bCons (dVar 2) (bCons (dC (.int 0)) (bNil))))) (bCons (dVar 1) (bNil)))))
  (dRet (dTup (dCons (dVar 3) (dCons (dCall wp_middle (bCons (dCall wp_told_otherwise (bCons (dVar 0) (bCons (dVar 2) (bCons (dC (.int 1000)) (bNil))))) (bCons (dVar 1) (bNil)))) (dNil)))))
def wp_reach : Sd := wpOf 4 rd_reach
set_option maxHeartbeats 4000000 in
theorem ok_reach (T : Tx K mg) : FnOk P w K mg base CX0 2 (He.ga K "reach") T.fd_reach ["peaks", "ghosts", "voter"] (spD K 3 wp_reach) := fn_dataD T.F_reach sc_reach fun cdv A outer s H E hr => by
  have hu := hu_room hr
  have hu1 := hu1_room hr
  exact qss_cons (qs_set (i := 3) sc_reach.nd rfl (by first | exact Or.inl rfl | exact Or.inr rfl) (qe_call (ok_middle T) (hr.mono (by decide)) (by rfl) T.m_middle T.F_middle.kp T.b_middle pass0 (qb_cons (qe_call (ok_told_otherwise T) (hr.mono (by decide)) (by rfl) T.m_told_otherwise T.F_told_otherwise.kp T.b_told_otherwise pass0 (qb_cons (qv 0) (qb_cons (qv 2) (qb_cons (qe_int) (qb_nil))))) (qb_cons (qv 1) (qb_nil)))))
      (qss_one (qs_ret (qe_tup (qa_cons (qv 3) (qa_cons (qe_call (ok_middle T) (hr.mono (by decide)) (by rfl) T.m_middle T.F_middle.kp T.b_middle pass0 (qb_cons (qe_call (ok_told_otherwise T) (hr.mono (by decide)) (by rfl) T.m_told_otherwise T.F_told_otherwise.kp T.b_told_otherwise pass0 (qb_cons (qv 0) (qb_cons (qv 2) (qb_cons (qe_gint (by rfl) T.i_MOST_SPOT) (qb_nil))))) (qb_cons (qv 1) (qb_nil)))) (qa_nil))))))
def rd_two_spots : DS :=
  dSeq (dSet 1 (dCB sortedA (dCons (dVar 0) (dNil))))
  (dSeq (dSet 2 (dC .none))
  (dSeq (dFor (dRng2 (dC (.int 1)) (dOp addD (dCB lenD (dCons (dVar 1) (dNil))) (dC (.int 1)))) (gN 3) (dSeq (dPar 4 5 (dCons (dSl (dVar 1) (dNo) (dPart (dVar 3))) (dCons (dIf (dTest (dOp ltD (dVar 3) (dCB lenD (dCons (dVar 1) (dNil))))) (dSl (dVar 1) (dPart (dVar 3)) (dNo)) (dSl (dVar 1) (dPart (dUn negD (dC (.int 1)))) (dNo))) (dNil))))
  (dSeq (dSet 6 (dTup (dCons (dOp ixD (dCall wp_unbeaten (bCons (dCB tupleD (dCons (dVar 4) (dNil))) (bNil))) (dC (.int 0))) (dCons (dOp ixD (dCall wp_unbeaten (bCons (dCB tupleD (dCons (dVar 5) (dNil))) (bNil))) (dC (.int 0))) (dNil)))))
  (dSeq (dSet 7 (dTup (dCons (dCB sumD (dCons (dComp (dSeqI (dVar 1)) (gN 8) (dYes) (dCB min2D (dCons (dCB absD (dCons (dOp subD (dVar 8) (dOp ixD (dVar 6) (dC (.int 0)))) (dNil))) (dCons (dCB absD (dCons (dOp subD (dVar 8) (dOp ixD (dVar 6) (dC (.int 1)))) (dNil))) (dNil)))) [8]) (dNil))) (dCons (dVar 6) (dNil)))))
  (dIfS (dOr (dTest (dOp isD (dVar 2) (dC .none))) (dTest (dOp ltD (dVar 7) (dVar 2)))) (dSet 2 (dVar 7)) (dNext))))))
  (dRet (dOp ixD (dVar 2) (dC (.int 1))))))
def wp_two_spots : Sd := wpOf 9 rd_two_spots
set_option maxHeartbeats 4000000 in
theorem ok_two_spots (T : Tx K mg) : FnOk P w K mg base CX0 2 (He.ga K "two_spots") T.fd_two_spots ["peaks"] (spD K 1 wp_two_spots) := fn_dataD T.F_two_spots sc_two_spots fun cdv A outer s H E hr => by
  have hu := hu_room hr
  have hu1 := hu1_room hr
  exact qss_cons (qs_set (i := 1) sc_two_spots.nd rfl (by first | exact Or.inl rfl | exact Or.inr rfl) (qe_callB (cd_sortedA hu) (by rfl) T.z_sorted (by decide +kernel) (qa_cons (qv 0) (qa_nil))))
      (qss_cons (qs_set (i := 2) sc_two_spots.nd rfl (by first | exact Or.inl rfl | exact Or.inr rfl) (qe_non))
      (qss_cons (qs_for PassesOwn.never (by rfl) (qi_rng2 (by rfl) T.z_range (qe_int) (qe_op od_add (qe_callB cd_len (by rfl) T.z_len (by decide +kernel) (qa_cons (qv 1) (qa_nil))) (qe_int))) (qg_name (i := 3) sc_two_spots.nd rfl (by first | exact Or.inl rfl | exact Or.inr rfl)) (qss_cons (qs_par (i := 4) (j := 5) (by rfl) sc_two_spots.nd rfl rfl (by decide) rfl rfl (qa_cons (qe_slice (qv 1) (qo_none) (qo_some (qv 3))) (qa_cons (qe_ifExp (qt_cmp (od_lt hu1) (qv 3) (qe_callB cd_len (by rfl) T.z_len (by decide +kernel) (qa_cons (qv 1) (qa_nil))) (nomark _)) (qe_slice (qv 1) (qo_some (qv 3)) (qo_none)) (qe_slice (qv 1) (qo_some (qe_neg (qe_int))) (qo_none))) (qa_nil))) (by rfl))
      (qss_cons (qs_set (i := 6) sc_two_spots.nd rfl (by first | exact Or.inl rfl | exact Or.inr rfl) (qe_tup (qa_cons (qe_ix (qe_call (ok_unbeaten T) (hr.mono (by decide)) (by rfl) T.m_unbeaten T.F_unbeaten.kp T.b_unbeaten pass0 (qb_cons (qe_callTy cd_tuple (by rfl) T.z_tuple (by decide +kernel) (qa_cons (qv 4) (qa_nil))) (qb_nil))) (qe_int) (fun _ _ => rfl)) (qa_cons (qe_ix (qe_call (ok_unbeaten T) (hr.mono (by decide)) (by rfl) T.m_unbeaten T.F_unbeaten.kp T.b_unbeaten pass0 (qb_cons (qe_callTy cd_tuple (by rfl) T.z_tuple (by decide +kernel) (qa_cons (qv 5) (qa_nil))) (qb_nil))) (qe_int) (fun _ _ => rfl)) (qa_nil)))))
      (qss_cons (qs_set (i := 7) sc_two_spots.nd rfl (by first | exact Or.inl rfl | exact Or.inr rfl) (qe_tup (qa_cons (qe_callB (cd_sum (by rfl)) (by rfl) T.z_sum (by decide +kernel) (qa_cons (qe_lc (own := [("one", 8)]) (by rfl) sc_two_spots.nd (qi_seq (qv 1)) (blkOk_by (by kernel_rfl)) (by rfl) (fun _ _ _ _ _ => qg_name (i := 8) sc_two_spots.nd rfl (by first | exact Or.inl rfl | exact Or.inr rfl)) (fun _ _ _ _ _ => qts_nil) (fun _ _ _ _ _ => qe_callB (cd_min2 (by rfl)) (by rfl) T.z_min (by decide +kernel) (qa_cons (qe_callB cd_abs (by rfl) T.z_abs (by decide +kernel) (qa_cons (qe_op od_sub (qv 8) (qe_ix (qv 6) (qe_int) (fun _ _ => rfl))) (qa_nil))) (qa_cons (qe_callB cd_abs (by rfl) T.z_abs (by decide +kernel) (qa_cons (qe_op od_sub (qv 8) (qe_ix (qv 6) (qe_int) (fun _ _ => rfl))) (qa_nil))) (qa_nil))))) (qa_nil))) (qa_cons (qv 6) (qa_nil)))))
      (qss_one (qs_if ((qw_or (qt_cmp od_is (qv 2) (qe_non) (nomark _)) (qw_or1 (qt_cmp (od_lt hu1) (qv 7) (qv 2) (nomark _)))).qt) (qss_one (qs_set (i := 2) sc_two_spots.nd rfl (by first | exact Or.inl rfl | exact Or.inr rfl) (qv 7))) (qss_nil)))))))
      (qss_one (qs_ret (qe_ix (qv 2) (qe_int) (fun _ _ => rfl))))))
def rd__law_pick : DS :=
  dRet (dOp ixD (dVar 1) (dCall wp__law_take (bSt 0 (bCons (dCB lenD (dCons (dVar 1) (dNil))) (bNil)))))
def wp__law_pick : Sd := wpOf 2 rd__law_pick
set_option maxHeartbeats 4000000 in
theorem ok__law_pick (T : Tx K mg) : FnOk P w K mg base CX0 2 (He.ga K "_law_pick") T.fd__law_pick ["state", "row"] (spD K 2 wp__law_pick) := fn_dataD T.F__law_pick sc__law_pick fun cdv A outer s H E hr => by
  have hu := hu_room hr
  have hu1 := hu1_room hr
  exact qss_one (qs_ret (qe_ix (qv 1) (qe_call (ok__law_take T) (hr.mono (by decide)) (by rfl) T.m__law_take T.F__law_take.kp T.b__law_take pass0 (qb_st 0 (qb_cons (qe_callB cd_len (by rfl) T.z_len (by decide +kernel) (qa_cons (qv 1) (qa_nil))) (qb_nil)))) (fun _ _ => rfl)))
def rd__law_chosen : DS :=
  dSeq (dIfS (dTest (dOp eqD (dVar 0) (dC (.str "middle")))) (dRet (dCall wp__law_middle (bCons (dVar 1) (bCons (dVar 2) (bNil))))) (dNext))
  (dRet (dIf (dTest (dOp eqD (dVar 0) (dC (.str "mean")))) (dOp fdivD (dCB sumD (dCons (dVar 1) (dNil))) (dCB lenD (dCons (dVar 1) (dNil)))) (dOp fdivD (dOp addD (dCB minL (dCons (dVar 1) (dNil))) (dCB maxL (dCons (dVar 1) (dNil)))) (dC (.int 2)))))
def wp__law_chosen : Sd := wpOf 3 rd__law_chosen
set_option maxHeartbeats 4000000 in
theorem ok__law_chosen (T : Tx K mg) : FnOk P w K mg base CX0 2 (He.ga K "_law_chosen") T.fd__law_chosen ["rule", "peaks", "ghosts"] (spD K 3 wp__law_chosen) := fn_dataD T.F__law_chosen sc__law_chosen fun cdv A outer s H E hr => by
  have hu := hu_room hr
  have hu1 := hu1_room hr
  exact qss_cons (qs_if (qt_cmp (od_eq hu1) (qv 0) (qe_str) (nomark _)) (qss_one (qs_ret (qe_call (ok__law_middle T) (hr.mono (by decide)) (by rfl) T.m__law_middle T.F__law_middle.kp T.b__law_middle pass0 (qb_cons (qv 1) (qb_cons (qv 2) (qb_nil)))))) (qss_nil))
      (qss_one (qs_ret (qe_ifExp (qt_cmp (od_eq hu1) (qv 0) (qe_str) (nomark _)) (qe_op od_fdiv (qe_callB (cd_sum (by rfl)) (by rfl) T.z_sum (by decide +kernel) (qa_cons (qv 1) (qa_nil))) (qe_callB cd_len (by rfl) T.z_len (by decide +kernel) (qa_cons (qv 1) (qa_nil)))) (qe_op od_fdiv (qe_op od_add (qe_callB (cd_minL (by rfl) hu) (by rfl) T.z_min (by decide +kernel) (qa_cons (qv 1) (qa_nil))) (qe_callB (cd_maxL (by rfl) hu) (by rfl) T.z_max (by decide +kernel) (qa_cons (qv 1) (qa_nil)))) (qe_int)))))
def rd_gain : DS :=
  dSeq (dSet 4 (dCB absD (dCons (dOp subD (dCall wp_chosen (bCons (dVar 0) (bCons (dVar 1) (bCons (dVar 2) (bNil))))) (dOp ixD (dVar 1) (dVar 3))) (dNil))))
  (dSeq (dSet 5 (dC .none))
  (dSeq (dFor (dRng1 (dOp addD (dC (.int 1000)) (dC (.int 1)))) (gN 6) (dSeq (dSet 7 (dCB absD (dCons (dOp subD (dCall wp_chosen (bCons (dVar 0) (bCons (dCall wp_told_otherwise (bCons (dVar 1) (bCons (dVar 3) (bCons (dVar 6) (bNil))))) (bCons (dVar 2) (bNil))))) (dOp ixD (dVar 1) (dVar 3))) (dNil))))
  (dIfS (dTest (dOp ltD (dVar 7) (dVar 4))) (dPar 5 4 (dCons (dVar 6) (dCons (dVar 7) (dNil)))) (dNext))))
  (dRet (dVar 5))))
def wp_gain : Sd := wpOf 8 rd_gain
set_option maxHeartbeats 4000000 in
theorem ok_gain (T : Tx K mg) : FnOk P w K mg base CX0 3 (He.ga K "gain") T.fd_gain ["rule", "peaks", "ghosts", "voter"] (spD K 4 wp_gain) := fn_dataD T.F_gain sc_gain fun cdv A outer s H E hr => by
  have hu := hu_room hr
  have hu1 := hu1_room hr
  exact qss_cons (qs_set (i := 4) sc_gain.nd rfl (by first | exact Or.inl rfl | exact Or.inr rfl) (qe_callB cd_abs (by rfl) T.z_abs (by decide +kernel) (qa_cons (qe_op od_sub (qe_call (ok_chosen T) (hr.mono (by decide)) (by rfl) T.m_chosen T.F_chosen.kp T.b_chosen pass0 (qb_cons (qv 0) (qb_cons (qv 1) (qb_cons (qv 2) (qb_nil))))) (qe_ix (qv 1) (qv 3) (fun _ _ => rfl))) (qa_nil))))
      (qss_cons (qs_set (i := 5) sc_gain.nd rfl (by first | exact Or.inl rfl | exact Or.inr rfl) (qe_non))
      (qss_cons (qs_for PassesOwn.never (by rfl) (qi_rng1 (by rfl) T.z_range (qe_op od_add (qe_gint (by rfl) T.i_MOST_SPOT) (qe_int))) (qg_name (i := 6) sc_gain.nd rfl (by first | exact Or.inl rfl | exact Or.inr rfl)) (qss_cons (qs_set (i := 7) sc_gain.nd rfl (by first | exact Or.inl rfl | exact Or.inr rfl) (qe_callB cd_abs (by rfl) T.z_abs (by decide +kernel) (qa_cons (qe_op od_sub (qe_call (ok_chosen T) (hr.mono (by decide)) (by rfl) T.m_chosen T.F_chosen.kp T.b_chosen pass0 (qb_cons (qv 0) (qb_cons (qe_call (ok_told_otherwise T) (hr.mono (by decide)) (by rfl) T.m_told_otherwise T.F_told_otherwise.kp T.b_told_otherwise pass0 (qb_cons (qv 1) (qb_cons (qv 3) (qb_cons (qv 6) (qb_nil))))) (qb_cons (qv 2) (qb_nil))))) (qe_ix (qv 1) (qv 3) (fun _ _ => rfl))) (qa_nil))))
      (qss_one (qs_if (qt_cmp (od_lt hu1) (qv 7) (qv 4) (nomark _)) (qss_one (qs_par (i := 5) (j := 4) (by rfl) sc_gain.nd rfl rfl (by decide) rfl rfl (qa_cons (qv 6) (qa_cons (qv 7) (qa_nil))) (by rfl))) (qss_nil)))))
      (qss_one (qs_ret (qv 5)))))
def rd__law_gain : DS :=
  dSeq (dSet 4 (dTup (dCons (dCB absD (dCons (dOp subD (dCall wp__law_chosen (bCons (dVar 0) (bCons (dVar 1) (bCons (dVar 2) (bNil))))) (dOp ixD (dVar 1) (dVar 3))) (dNil))) (dCons (dC .none) (dNil)))))
  (dSeq (dFor (dRng1 (dC (.int 1001))) (gN 5) (dSeq (dSet 6 (dCB absD (dCons (dOp subD (dCall wp__law_chosen (bCons (dVar 0) (bCons (dOp addD (dOp addD (dSl (dVar 1) (dNo) (dPart (dVar 3))) (dTup (dCons (dVar 5) (dNil)))) (dSl (dVar 1) (dPart (dOp addD (dVar 3) (dC (.int 1)))) (dNo))) (bCons (dVar 2) (bNil))))) (dOp ixD (dVar 1) (dVar 3))) (dNil))))
  (dIfS (dTest (dOp ltD (dVar 6) (dOp ixD (dVar 4) (dC (.int 0))))) (dSet 4 (dTup (dCons (dVar 6) (dCons (dVar 5) (dNil))))) (dNext))))
  (dRet (dOp ixD (dVar 4) (dC (.int 1)))))
def wp__law_gain : Sd := wpOf 7 rd__law_gain
set_option maxHeartbeats 4000000 in
theorem ok__law_gain (T : Tx K mg) : FnOk P w K mg base CX0 3 (He.ga K "_law_gain") T.fd__law_gain ["rule", "peaks", "ghosts", "voter"] (spD K 4 wp__law_gain) := fn_dataD T.F__law_gain sc__law_gain fun cdv A outer s H E hr => by
  have hu := hu_room hr
  have hu1 := hu1_room hr
  exact qss_cons (qs_set (i := 4) sc__law_gain.nd rfl (by first | exact Or.inl rfl | exact Or.inr rfl) (qe_tup (qa_cons (qe_callB cd_abs (by rfl) T.z_abs (by decide +kernel) (qa_cons (qe_op od_sub (qe_call (ok__law_chosen T) (hr.mono (by decide)) (by rfl) T.m__law_chosen T.F__law_chosen.kp T.b__law_chosen pass0 (qb_cons (qv 0) (qb_cons (qv 1) (qb_cons (qv 2) (qb_nil))))) (qe_ix (qv 1) (qv 3) (fun _ _ => rfl))) (qa_nil))) (qa_cons (qe_non) (qa_nil)))))
      (qss_cons (qs_for PassesOwn.never (by rfl) (qi_rng1 (by rfl) T.z_range (qe_int)) (qg_name (i := 5) sc__law_gain.nd rfl (by first | exact Or.inl rfl | exact Or.inr rfl)) (qss_cons (qs_set (i := 6) sc__law_gain.nd rfl (by first | exact Or.inl rfl | exact Or.inr rfl) (qe_callB cd_abs (by rfl) T.z_abs (by decide +kernel) (qa_cons (qe_op od_sub (qe_call (ok__law_chosen T) (hr.mono (by decide)) (by rfl) T.m__law_chosen T.F__law_chosen.kp T.b__law_chosen pass0 (qb_cons (qv 0) (qb_cons (qe_op od_add (qe_op od_add (qe_slice (qv 1) (qo_none) (qo_some (qv 3))) (qe_tup (qa_cons (qv 5) (qa_nil)))) (qe_slice (qv 1) (qo_some (qe_op od_add (qv 3) (qe_int))) (qo_none))) (qb_cons (qv 2) (qb_nil))))) (qe_ix (qv 1) (qv 3) (fun _ _ => rfl))) (qa_nil))))
      (qss_one (qs_if (qt_cmp (od_lt hu1) (qv 6) (qe_ix (qv 4) (qe_int) (fun _ _ => rfl)) (nomark _)) (qss_one (qs_set (i := 4) sc__law_gain.nd rfl (by first | exact Or.inl rfl | exact Or.inr rfl) (qe_tup (qa_cons (qv 6) (qa_cons (qv 5) (qa_nil)))))) (qss_nil)))))
      (qss_one (qs_ret (qe_ix (qv 4) (qe_int) (fun _ _ => rfl)))))
def rd_gainer : DS :=
  dSeq (dFor (dRng1 (dCB lenD (dCons (dVar 1) (dNil)))) (gN 3) (dSeq (dSet 4 (dCall wp_gain (bCons (dVar 0) (bCons (dVar 1) (bCons (dVar 2) (bCons (dVar 3) (bNil)))))))
  (dIfS (dTest (dOp isntD (dVar 4) (dC .none))) (dRet (dTup (dCons (dVar 3) (dCons (dVar 4) (dNil))))) (dNext))))
  (dRet (dC .none))
def wp_gainer : Sd := wpOf 5 rd_gainer
set_option maxHeartbeats 4000000 in
theorem ok_gainer (T : Tx K mg) : FnOk P w K mg base CX0 4 (He.ga K "gainer") T.fd_gainer ["rule", "peaks", "ghosts"] (spD K 3 wp_gainer) := fn_dataD T.F_gainer sc_gainer fun cdv A outer s H E hr => by
  have hu := hu_room hr
  have hu1 := hu1_room hr
  exact qss_cons (qs_for PassesOwn.never (by rfl) (qi_rng1 (by rfl) T.z_range (qe_callB cd_len (by rfl) T.z_len (by decide +kernel) (qa_cons (qv 1) (qa_nil)))) (qg_name (i := 3) sc_gainer.nd rfl (by first | exact Or.inl rfl | exact Or.inr rfl)) (qss_cons (qs_set (i := 4) sc_gainer.nd rfl (by first | exact Or.inl rfl | exact Or.inr rfl) (qe_call (ok_gain T) (hr.mono (by decide)) (by rfl) T.m_gain T.F_gain.kp T.b_gain pass0 (qb_cons (qv 0) (qb_cons (qv 1) (qb_cons (qv 2) (qb_cons (qv 3) (qb_nil)))))))
      (qss_one (qs_if (qt_cmp od_isnt (qv 4) (qe_non) (nomark _)) (qss_one (qs_ret (qe_tup (qa_cons (qv 3) (qa_cons (qv 4) (qa_nil)))))) (qss_nil)))))
      (qss_one (qs_ret (qe_non)))
def rd_law : DS :=
  dSeq (dFor (dRng1 (dC (.int 3))) (gN 2) (dSeq (dAsg (dTup (dCons (dOp addD (dC (.int 1)) (dCall wp__law_take (bSt 1 (bCons (dC (.int 9)) (bNil))))) (dCons (dCall wp__law_pick (bSt 1 (bCons (dLst (dCons (dC (.int 4)) (dCons (dC (.int 12)) (dCons (dC (.int 1001)) (dNil))))) (bNil)))) (dNil)))) (gTupD 2 (gConsD (gN 3) (gConsD (gN 4) (gNilD)))))
  (dSeq (dSet 5 (dCB tupleD (dCons (dComp (dRng1 (dVar 3)) (gN 24) (dYes) (dCall wp__law_take (bSt 1 (bCons (dVar 4) (bNil)))) [24]) (dNil))))
  (dSeq (dSet 6 (dCB tupleD (dCons (dComp (dRng1 (dOp subD (dVar 3) (dC (.int 1)))) (gN 24) (dYes) (dCall wp__law_take (bSt 1 (bCons (dVar 4) (bNil)))) [24]) (dNil))))
  (dSeq (dIfS (dOr (dTest (dOp isntD (dCall wp_are_peaks (bCons (dVar 5) (bNil))) (dC (.bool true)))) (dTest (dOp isntD (dCall wp_are_ghosts (bCons (dVar 5) (bCons (dVar 6) (bNil)))) (dC (.bool true))))) (dRet (dC (.bool false))) (dNext))
  (dSeq (dSet 7 (dCall wp_middle (bCons (dVar 5) (bCons (dVar 6) (bNil)))))
  (dSeq (dIfS (dOr (dTest (dOp neD (dVar 7) (dCall wp__law_middle (bCons (dVar 5) (bCons (dVar 6) (bNil)))))) (dOr (dTest (dOp neD (dCall wp_mean (bCons (dVar 5) (bNil))) (dOp fdivD (dCB sumD (dCons (dVar 5) (dNil))) (dVar 3)))) (dTest (dOp neD (dCall wp_ends (bCons (dVar 5) (bNil))) (dOp fdivD (dOp addD (dCB minL (dCons (dVar 5) (dNil))) (dCB maxL (dCons (dVar 5) (dNil)))) (dC (.int 2))))))) (dRet (dC (.bool false))) (dNext))
  (dSeq (dIfS (dOr (dTest (dOp neD (dComp (dSeqI (dTup (dCons (dC (.str "middle")) (dCons (dC (.str "mean")) (dCons (dC (.str "ends")) (dNil)))))) (gN 8) (dYes) (dCall wp_chosen (bCons (dVar 8) (bCons (dVar 5) (bCons (dVar 6) (bNil))))) [8]) (dLst (dCons (dVar 7) (dCons (dCall wp_mean (bCons (dVar 5) (bNil))) (dCons (dCall wp_ends (bCons (dVar 5) (bNil))) (dNil))))))) (dTest (dOp isntD (dCall wp_gainer (bCons (dC (.str "middle")) (bCons (dVar 5) (bCons (dVar 6) (bNil))))) (dC .none)))) (dRet (dC (.bool false))) (dNext))
  (dSeq (dSet 9 (dCall wp__law_take (bSt 1 (bCons (dVar 3) (bNil)))))
  (dSeq (dSet 10 (dCall wp_reach (bCons (dVar 5) (bCons (dVar 6) (bCons (dVar 9) (bNil))))))
  (dSeq (dSet 11 (dOp addD (dOp addD (dSl (dVar 5) (dNo) (dPart (dVar 9))) (dSl (dVar 5) (dPart (dOp addD (dVar 9) (dC (.int 1)))) (dNo))) (dVar 6)))
  (dSeq (dSet 13 (dSortSet (dComp (dRng1 (dC (.int 1001))) (gN 12) (dYes) (dCall wp__law_middle (bCons (dVar 11) (bCons (dTup (dCons (dVar 12) (dNil))) (bNil)))) [12])))
  (dSeq (dIfS (dOr (dTest (dOp neD (dVar 10) (dTup (dCons (dOp ixD (dVar 13) (dC (.int 0))) (dCons (dOp ixD (dVar 13) (dUn negD (dC (.int 1)))) (dNil)))))) (dOr (dTest (dOp neD (dVar 13) (dListR2 (dOp ixD (dVar 13) (dC (.int 0))) (dOp addD (dOp ixD (dVar 13) (dUn negD (dC (.int 1)))) (dC (.int 1)))))) (dTest (dOp neD (dCall wp_nearest (bCons (dOp ixD (dVar 5) (dVar 9)) (bCons (dVar 10) (bNil)))) (dVar 7))))) (dRet (dC (.bool false))) (dNext))
  (dSeq (dIfS (dTest (dOp isntD (dCall wp_gain (bCons (dC (.str "middle")) (bCons (dVar 5) (bCons (dVar 6) (bCons (dVar 9) (bNil)))))) (dC .none))) (dRet (dC (.bool false))) (dNext))
  (dSeq (dFor (dSeqI (dTup (dCons (dC (.str "mean")) (dCons (dC (.str "ends")) (dNil))))) (gN 8) (dIfS (dTest (dOp neD (dCall wp_gain (bCons (dVar 8) (bCons (dVar 5) (bCons (dVar 6) (bCons (dVar 9) (bNil)))))) (dCall wp__law_gain (bCons (dVar 8) (bCons (dVar 5) (bCons (dVar 6) (bCons (dVar 9) (bNil)))))))) (dRet (dC (.bool false))) (dNext)))
  (dSeq (dSet 8 (dCall wp__law_pick (bSt 1 (bCons (dLst (dCons (dC (.str "mean")) (dCons (dC (.str "ends")) (dNil)))) (bNil)))))
  (dSeq (dSet 14 (dCall wp_gainer (bCons (dVar 8) (bCons (dVar 5) (bCons (dVar 6) (bNil))))))
  (dSeq (dIfS (dAnd (dTest (dOp ltD (dVar 3) (dC (.int 4)))) (dTest (dOp neD (dVar 14) (dOp ixD (dOrX (dComp (dRng1 (dVar 3)) (gN 24) (dTest (dOp isntD (dCall wp__law_gain (bCons (dVar 8) (bCons (dVar 5) (bCons (dVar 6) (bCons (dVar 24) (bNil)))))) (dC .none))) (dTup (dCons (dVar 24) (dCons (dCall wp__law_gain (bCons (dVar 8) (bCons (dVar 5) (bCons (dVar 6) (bCons (dVar 24) (bNil)))))) (dNil)))) [24]) (dLst (dCons (dC .none) (dNil)))) (dC (.int 0)))))) (dRet (dC (.bool false))) (dNext))
  (dSeq (dIfS (dAnd (dTest (dOp isntD (dVar 14) (dC .none))) (dTest (dOp geD (dCB absD (dCons (dOp subD (dCall wp__law_chosen (bCons (dVar 8) (bCons (dCall wp_told_otherwise (bCons (dVar 5) (bCons (dOp ixD (dVar 14) (dC (.int 0))) (bCons (dOp ixD (dVar 14) (dC (.int 1))) (bNil))))) (bCons (dVar 6) (bNil))))) (dOp ixD (dVar 5) (dOp ixD (dVar 14) (dC (.int 0))))) (dNil))) (dCB absD (dCons (dOp subD (dCall wp__law_chosen (bCons (dVar 8) (bCons (dVar 5) (bCons (dVar 6) (bNil))))) (dOp ixD (dVar 5) (dOp ixD (dVar 14) (dC (.int 0))))) (dNil)))))) (dRet (dC (.bool false))) (dNext))
  (dSeq (dAsg (dCall wp_unbeaten (bCons (dVar 5) (bNil))) (gTupD 2 (gConsD (gN 15) (gConsD (gN 16) (gNilD)))))
  (dSeq (dSet 17 (dCB sortedA (dCons (dVar 5) (dNil))))
  (dSeq (dIfS (dTest (dOp neD (dTup (dCons (dVar 15) (dCons (dVar 16) (dNil)))) (dTup (dCons (dOp ixD (dVar 17) (dOp fdivD (dCB intD (dCons (dOp subD (dVar 3) (dC (.int 1))) (dNil))) (dC (.int 2)))) (dCons (dOp ixD (dVar 17) (dOp fdivD (dVar 3) (dC (.int 2)))) (dNil)))))) (dRet (dC (.bool false))) (dNext))
  (dSeq (dSet 19 (dComp (dRng1 (dCB min2D (dCons (dC (.int 1001)) (dCons (dOp addD (dVar 4) (dC (.int 1))) (dNil))))) (gN 12) (dYes) (dCB sumD (dCons (dComp (dSeqI (dVar 5)) (gN 18) (dYes) (dCB absD (dCons (dOp subD (dVar 18) (dVar 12)) (dNil))) [18]) (dNil))) [12]))
  (dSeq (dIfS (dTest (dOp neD (dComp (dRng1 (dCB lenD (dCons (dVar 19) (dNil)))) (gN 12) (dTest (dOp eqD (dOp ixD (dVar 19) (dVar 12)) (dCB minL (dCons (dVar 19) (dNil))))) (dVar 12) [12]) (dListR2 (dVar 15) (dOp addD (dVar 16) (dC (.int 1)))))) (dRet (dC (.bool false))) (dNext))
  (dSeq (dFor (dRng1 (dC (.int 6))) (gN 20) (dSeq (dAsg (dTup (dCons (dCall wp__law_take (bSt 1 (bCons (dVar 4) (bNil)))) (dCons (dCall wp__law_take (bSt 1 (bCons (dVar 4) (bNil)))) (dNil)))) (gTupD 2 (gConsD (gN 18) (gConsD (gN 12) (gNilD)))))
  (dSeq (dSet 21 (dOp gtD (dCB lenD (dCons (dComp (dSeqI (dVar 5)) (gN 24) (dTest (dOp ltD (dCB absD (dCons (dOp subD (dVar 24) (dVar 12)) (dNil))) (dCB absD (dCons (dOp subD (dVar 24) (dVar 18)) (dNil))))) (dVar 24) [24]) (dNil))) (dCB lenD (dCons (dComp (dSeqI (dVar 5)) (gN 24) (dTest (dOp ltD (dCB absD (dCons (dOp subD (dVar 24) (dVar 18)) (dNil))) (dCB absD (dCons (dOp subD (dVar 24) (dVar 12)) (dNil))))) (dVar 24) [24]) (dNil)))))
  (dSeq (dIfS (dOr (dTest (dOp neD (dCall wp_beaten (bCons (dVar 5) (bCons (dVar 18) (bCons (dVar 12) (bNil))))) (dVar 21))) (dOr (dAnd (dTest (dChain leD leD (dVar 15) (dVar 18) (dVar 16))) (dTest (dVar 21))) (dTest (dOp neD (dCall wp_distances (bCons (dVar 5) (bCons (dVar 18) (bNil)))) (dCB sumD (dCons (dComp (dSeqI (dVar 5)) (gN 24) (dYes) (dCB absD (dCons (dOp subD (dVar 24) (dVar 18)) (dNil))) [24]) (dNil))))))) (dRet (dC (.bool false))) (dNext))
  (dIfS (dAnd (dNot (dTest (dChain leD leD (dVar 15) (dVar 18) (dVar 16)))) (dNot (dTest (dCall wp_beaten (bCons (dVar 5) (bCons (dVar 18) (bCons (dIf (dTest (dOp ltD (dVar 18) (dVar 15))) (dVar 15) (dVar 16)) (bNil)))))))) (dRet (dC (.bool false))) (dNext))))))
  (dSeq (dSet 22 (dCall wp_two_spots (bCons (dVar 5) (bNil))))
  (dSeq (dSet 14 (dCB sumD (dCons (dComp (dSeqI (dVar 5)) (gN 18) (dYes) (dCB min2D (dCons (dCB absD (dCons (dOp subD (dVar 18) (dOp ixD (dVar 22) (dC (.int 0)))) (dNil))) (dCons (dCB absD (dCons (dOp subD (dVar 18) (dOp ixD (dVar 22) (dC (.int 1)))) (dNil))) (dNil)))) [18]) (dNil))))
  (dSeq (dIfS (dOr (dTest (dOp gtD (dOp ixD (dVar 22) (dC (.int 0))) (dOp ixD (dVar 22) (dC (.int 1))))) (dAnd (dTest (dOp ltD (dVar 4) (dC (.int 13)))) (dTest (dOp neD (dVar 14) (dCB minL (dCons (dComp (dRng1 (dVar 4)) (gN 25) (dYes) (dCB minL (dCons (dComp (dRng1 (dVar 4)) (gN 26) (dYes) (dCB sumD (dCons (dComp (dSeqI (dVar 5)) (gN 18) (dYes) (dCB min2D (dCons (dCB absD (dCons (dOp subD (dVar 18) (dVar 25)) (dNil))) (dCons (dCB absD (dCons (dOp subD (dVar 18) (dVar 26)) (dNil))) (dNil)))) [18]) (dNil))) [26]) (dNil))) [25]) (dNil))))))) (dRet (dC (.bool false))) (dNext))
  (dSeq (dFor (dSeqI (dTup (dCons (dC .none) (dCons (dCB listD (dCons (dVar 5) (dNil))) (dCons (dTup (dNil)) (dCons (dOp addD (dVar 5) (dTup (dCons (dC (.int 1001)) (dNil)))) (dCons (dOp addD (dVar 5) (dTup (dCons (dUn negD (dC (.int 1))) (dNil)))) (dCons (dOp addD (dVar 5) (dTup (dCons (dC .none) (dNil)))) (dCons (dOp addD (dVar 5) (dTup (dCons (dC (.bool true)) (dNil)))) (dCons (dOp mulD (dTup (dCons (dC (.int 0)) (dNil))) (dC (.int 16))) (dNil))))))))))) (gN 23) (dIfS (dTest (dOp isntD (dCall wp_are_peaks (bCons (dVar 23) (bNil))) (dC (.bool false)))) (dRet (dC (.bool false))) (dNext)))
  (dFor (dSeqI (dTup (dCons (dC .none) (dCons (dCB listD (dCons (dVar 6) (dNil))) (dCons (dOp addD (dVar 6) (dTup (dCons (dC (.int 0)) (dNil)))) (dCons (dOp addD (dOp mulD (dTup (dCons (dC .none) (dNil))) (dOp subD (dVar 3) (dC (.int 1)))) (dTup (dCons (dC .none) (dNil)))) (dCons (dIf (dTest (dOp gtD (dVar 3) (dC (.int 1)))) (dOp mulD (dTup (dCons (dC (.int 1001)) (dNil))) (dOp subD (dVar 3) (dC (.int 1)))) (dC (.int 5))) (dNil)))))))) (gN 23) (dIfS (dTest (dOp isntD (dCall wp_are_ghosts (bCons (dVar 5) (bCons (dVar 23) (bNil)))) (dC (.bool false)))) (dRet (dC (.bool false))) (dNext))))))))))))))))))))))))))))))))
  (dRet (dAndV (dOp eqD (dCall wp_gainer (bCons (dC (.str "mean")) (bCons (dTup (dCons (dC (.int 0)) (dCons (dC (.int 10)) (dNil)))) (bCons (dTup (dCons (dC (.int 0)) (dNil))) (bNil))))) (dTup (dCons (dC (.int 1)) (dCons (dC (.int 20)) (dNil))))) (dAndV (dOp isD (dCall wp_gain (bCons (dC (.str "mean")) (bCons (dTup (dCons (dC (.int 0)) (dCons (dC (.int 10)) (dNil)))) (bCons (dTup (dCons (dC (.int 0)) (dNil))) (bCons (dC (.int 0)) (bNil)))))) (dC .none)) (dAndV (dOp eqD (dCall wp_nearest (bCons (dC (.int 5)) (bCons (dTup (dCons (dC (.int 7)) (dCons (dC (.int 9)) (dNil)))) (bNil)))) (dC (.int 7))) (dOp eqD (dCall wp_middle (bCons (dTup (dCons (dC (.int 3)) (dNil))) (bCons (dTup (dNil)) (bNil)))) (dC (.int 3)))))))
/-- the law behind its first statement -/
def lawOk : Prop := rd_law { nx := fun _ => False, rt := fun d => d = .bool true } ((List.replicate 27 none).set 1 (some .st))
set_option maxHeartbeats 4000000 in
theorem ok_law (T : Tx K mg) (hlaw : lawOk) : FnOk P w K mg base CX0 5 (He.ga K "law") T.fd_law ["script"] (spLaw K) :=
  fn_law T.F_law sc_law (by rfl) (by decide) (by decide) (ok__law_state T) (by rfl) T.m__law_state T.F__law_state.kp T.b__law_state (by first | exact Or.inl rfl | exact Or.inr rfl) (fun cdv A outer s H E hr => by
    have hu := hu_room hr
    have hu1 := hu1_room hr
    exact qss_cons (qs_for PassesOwn.never (by rfl) (qi_rng1 (by rfl) T.z_range (qe_int)) (qg_name (i := 2) sc_law.nd rfl (by first | exact Or.inl rfl | exact Or.inr rfl)) (qss_cons (qs_asg (qe_tup (qa_cons (qe_op od_add (qe_int) (qe_call (ok__law_take T) (hr.mono (by decide)) (by rfl) T.m__law_take T.F__law_take.kp T.b__law_take pass0 (qb_st 1 (qb_cons (qe_int) (qb_nil))))) (qa_cons (qe_call (ok__law_pick T) (hr.mono (by decide)) (by rfl) T.m__law_pick T.F__law_pick.kp T.b__law_pick pass0 (qb_st 1 (qb_cons (qe_lst (qa_cons (qe_int) (qa_cons (qe_int) (qa_cons (qe_int) (qa_nil))))) (qb_nil)))) (qa_nil)))) (qg_tup (by rfl) (qgs_cons (qg_name (i := 3) sc_law.nd rfl (by first | exact Or.inl rfl | exact Or.inr rfl)) (qgs_cons (qg_name (i := 4) sc_law.nd rfl (by first | exact Or.inl rfl | exact Or.inr rfl)) (qgs_nil)))))
          (qss_cons (qs_set (i := 5) sc_law.nd rfl (by first | exact Or.inl rfl | exact Or.inr rfl) (qe_callTy cd_tuple (by rfl) T.z_tuple (by decide +kernel) (qa_cons (qe_lc (own := [("k", 24)]) (by rfl) sc_law.nd (qi_rng1 (by rfl) T.z_range (qv 3)) (blkOk_by (by kernel_rfl)) (by rfl) (fun _ _ _ _ _ => qg_name (i := 24) sc_law.nd rfl (by first | exact Or.inl rfl | exact Or.inr rfl)) (fun _ _ _ _ _ => qts_nil) (fun _ _ _ _ _ => qe_call (ok__law_take T) (hr.mono (by decide)) (by rfl) T.m__law_take T.F__law_take.kp T.b__law_take pass0 (qb_st 1 (qb_cons (qv 4) (qb_nil))))) (qa_nil))))
          (qss_cons (qs_set (i := 6) sc_law.nd rfl (by first | exact Or.inl rfl | exact Or.inr rfl) (qe_callTy cd_tuple (by rfl) T.z_tuple (by decide +kernel) (qa_cons (qe_lc (own := [("k", 24)]) (by rfl) sc_law.nd (qi_rng1 (by rfl) T.z_range (qe_op od_sub (qv 3) (qe_int))) (blkOk_by (by kernel_rfl)) (by rfl) (fun _ _ _ _ _ => qg_name (i := 24) sc_law.nd rfl (by first | exact Or.inl rfl | exact Or.inr rfl)) (fun _ _ _ _ _ => qts_nil) (fun _ _ _ _ _ => qe_call (ok__law_take T) (hr.mono (by decide)) (by rfl) T.m__law_take T.F__law_take.kp T.b__law_take pass0 (qb_st 1 (qb_cons (qv 4) (qb_nil))))) (qa_nil))))
          (qss_cons (qs_if ((qw_or (qt_cmp od_isnt (qe_call (ok_are_peaks T) (hr.mono (by decide)) (by rfl) T.m_are_peaks T.F_are_peaks.kp T.b_are_peaks pass0 (qb_cons (qv 5) (qb_nil))) (qe_bl) (nomark _)) (qw_or1 (qt_cmp od_isnt (qe_call (ok_are_ghosts T) (hr.mono (by decide)) (by rfl) T.m_are_ghosts T.F_are_ghosts.kp T.b_are_ghosts pass0 (qb_cons (qv 5) (qb_cons (qv 6) (qb_nil)))) (qe_bl) (nomark _)))).qt) (qss_one (qs_ret (qe_bl))) (qss_nil))
          (qss_cons (qs_set (i := 7) sc_law.nd rfl (by first | exact Or.inl rfl | exact Or.inr rfl) (qe_call (ok_middle T) (hr.mono (by decide)) (by rfl) T.m_middle T.F_middle.kp T.b_middle pass0 (qb_cons (qv 5) (qb_cons (qv 6) (qb_nil)))))
          (qss_cons (qs_if ((qw_or (qt_cmp (od_ne hu1) (qv 7) (qe_call (ok__law_middle T) (hr.mono (by decide)) (by rfl) T.m__law_middle T.F__law_middle.kp T.b__law_middle pass0 (qb_cons (qv 5) (qb_cons (qv 6) (qb_nil)))) (nomark _)) (qw_or (qt_cmp (od_ne hu1) (qe_call (ok_mean T) (hr.mono (by decide)) (by rfl) T.m_mean T.F_mean.kp T.b_mean pass0 (qb_cons (qv 5) (qb_nil))) (qe_op od_fdiv (qe_callB (cd_sum (by rfl)) (by rfl) T.z_sum (by decide +kernel) (qa_cons (qv 5) (qa_nil))) (qv 3)) (nomark _)) (qw_or1 (qt_cmp (od_ne hu1) (qe_call (ok_ends T) (hr.mono (by decide)) (by rfl) T.m_ends T.F_ends.kp T.b_ends pass0 (qb_cons (qv 5) (qb_nil))) (qe_op od_fdiv (qe_op od_add (qe_callB (cd_minL (by rfl) hu) (by rfl) T.z_min (by decide +kernel) (qa_cons (qv 5) (qa_nil))) (qe_callB (cd_maxL (by rfl) hu) (by rfl) T.z_max (by decide +kernel) (qa_cons (qv 5) (qa_nil)))) (qe_int)) (nomark _))))).qt) (qss_one (qs_ret (qe_bl))) (qss_nil))
          (qss_cons (qs_if ((qw_or (qt_cmp (od_ne hu1) (qe_lc (own := [("rule", 8)]) (by rfl) sc_law.nd (qi_seq (qe_tup (qa_cons (qe_str) (qa_cons (qe_str) (qa_cons (qe_str) (qa_nil)))))) (blkOk_by (by kernel_rfl)) (by rfl) (fun _ _ _ _ _ => qg_name (i := 8) sc_law.nd rfl (by first | exact Or.inl rfl | exact Or.inr rfl)) (fun _ _ _ _ _ => qts_nil) (fun _ _ _ _ _ => qe_call (ok_chosen T) (hr.mono (by decide)) (by rfl) T.m_chosen T.F_chosen.kp T.b_chosen pass0 (qb_cons (qv 8) (qb_cons (qv 5) (qb_cons (qv 6) (qb_nil)))))) (qe_lst (qa_cons (qv 7) (qa_cons (qe_call (ok_mean T) (hr.mono (by decide)) (by rfl) T.m_mean T.F_mean.kp T.b_mean pass0 (qb_cons (qv 5) (qb_nil))) (qa_cons (qe_call (ok_ends T) (hr.mono (by decide)) (by rfl) T.m_ends T.F_ends.kp T.b_ends pass0 (qb_cons (qv 5) (qb_nil))) (qa_nil))))) (nomark _)) (qw_or1 (qt_cmp od_isnt (qe_call (ok_gainer T) (hr.mono (by decide)) (by rfl) T.m_gainer T.F_gainer.kp T.b_gainer pass0 (qb_cons (qe_str) (qb_cons (qv 5) (qb_cons (qv 6) (qb_nil))))) (qe_non) (nomark _)))).qt) (qss_one (qs_ret (qe_bl))) (qss_nil))
          (qss_cons (qs_set (i := 9) sc_law.nd rfl (by first | exact Or.inl rfl | exact Or.inr rfl) (qe_call (ok__law_take T) (hr.mono (by decide)) (by rfl) T.m__law_take T.F__law_take.kp T.b__law_take pass0 (qb_st 1 (qb_cons (qv 3) (qb_nil)))))
          (qss_cons (qs_set (i := 10) sc_law.nd rfl (by first | exact Or.inl rfl | exact Or.inr rfl) (qe_call (ok_reach T) (hr.mono (by decide)) (by rfl) T.m_reach T.F_reach.kp T.b_reach pass0 (qb_cons (qv 5) (qb_cons (qv 6) (qb_cons (qv 9) (qb_nil))))))
          (qss_cons (qs_set (i := 11) sc_law.nd rfl (by first | exact Or.inl rfl | exact Or.inr rfl) (qe_op od_add (qe_op od_add (qe_slice (qv 5) (qo_none) (qo_some (qv 9))) (qe_slice (qv 5) (qo_some (qe_op od_add (qv 9) (qe_int))) (qo_none))) (qv 6)))
          (qss_cons (qs_set (i := 13) sc_law.nd rfl (by first | exact Or.inl rfl | exact Or.inr rfl) (qe_sortSet hu (by rfl) T.z_sorted (by rfl) T.z_set (qe_lc (own := [("other", 12)]) (by rfl) sc_law.nd (qi_rng1 (by rfl) T.z_range (qe_int)) (blkOk_by (by kernel_rfl)) (by rfl) (fun _ _ _ _ _ => qg_name (i := 12) sc_law.nd rfl (by first | exact Or.inl rfl | exact Or.inr rfl)) (fun _ _ _ _ _ => qts_nil) (fun _ _ _ _ _ => qe_call (ok__law_middle T) (hr.mono (by decide)) (by rfl) T.m__law_middle T.F__law_middle.kp T.b__law_middle pass0 (qb_cons (qv 11) (qb_cons (qe_tup (qa_cons (qv 12) (qa_nil))) (qb_nil)))))))
          (qss_cons (qs_if ((qw_or (qt_cmp (od_ne hu1) (qv 10) (qe_tup (qa_cons (qe_ix (qv 13) (qe_int) (fun _ _ => rfl)) (qa_cons (qe_ix (qv 13) (qe_neg (qe_int)) (fun _ _ => rfl)) (qa_nil)))) (nomark _)) (qw_or (qt_cmp (od_ne hu1) (qv 13) (qe_listR2 (by rfl) (by rfl) T.z_list (by rfl) T.z_range (qe_ix (qv 13) (qe_int) (fun _ _ => rfl)) (qe_op od_add (qe_ix (qv 13) (qe_neg (qe_int)) (fun _ _ => rfl)) (qe_int))) (nomark _)) (qw_or1 (qt_cmp (od_ne hu1) (qe_call (ok_nearest T) (hr.mono (by decide)) (by rfl) T.m_nearest T.F_nearest.kp T.b_nearest pass0 (qb_cons (qe_ix (qv 5) (qv 9) (fun _ _ => rfl)) (qb_cons (qv 10) (qb_nil)))) (qv 7) (nomark _))))).qt) (qss_one (qs_ret (qe_bl))) (qss_nil))
          (qss_cons (qs_if (qt_cmp od_isnt (qe_call (ok_gain T) (hr.mono (by decide)) (by rfl) T.m_gain T.F_gain.kp T.b_gain pass0 (qb_cons (qe_str) (qb_cons (qv 5) (qb_cons (qv 6) (qb_cons (qv 9) (qb_nil)))))) (qe_non) (nomark _)) (qss_one (qs_ret (qe_bl))) (qss_nil))
          (qss_cons (qs_for PassesOwn.never (by rfl) (qi_seq (qe_tup (qa_cons (qe_str) (qa_cons (qe_str) (qa_nil))))) (qg_name (i := 8) sc_law.nd rfl (by first | exact Or.inl rfl | exact Or.inr rfl)) (qss_one (qs_if (qt_cmp (od_ne hu1) (qe_call (ok_gain T) (hr.mono (by decide)) (by rfl) T.m_gain T.F_gain.kp T.b_gain pass0 (qb_cons (qv 8) (qb_cons (qv 5) (qb_cons (qv 6) (qb_cons (qv 9) (qb_nil)))))) (qe_call (ok__law_gain T) (hr.mono (by decide)) (by rfl) T.m__law_gain T.F__law_gain.kp T.b__law_gain pass0 (qb_cons (qv 8) (qb_cons (qv 5) (qb_cons (qv 6) (qb_cons (qv 9) (qb_nil)))))) (nomark _)) (qss_one (qs_ret (qe_bl))) (qss_nil))))
          (qss_cons (qs_set (i := 8) sc_law.nd rfl (by first | exact Or.inl rfl | exact Or.inr rfl) (qe_call (ok__law_pick T) (hr.mono (by decide)) (by rfl) T.m__law_pick T.F__law_pick.kp T.b__law_pick pass0 (qb_st 1 (qb_cons (qe_lst (qa_cons (qe_str) (qa_cons (qe_str) (qa_nil)))) (qb_nil)))))
          (qss_cons (qs_set (i := 14) sc_law.nd rfl (by first | exact Or.inl rfl | exact Or.inr rfl) (qe_call (ok_gainer T) (hr.mono (by decide)) (by rfl) T.m_gainer T.F_gainer.kp T.b_gainer pass0 (qb_cons (qv 8) (qb_cons (qv 5) (qb_cons (qv 6) (qb_nil))))))
          (qss_cons (qs_if ((qw_and (qt_cmp (od_lt hu1) (qv 3) (qe_int) (nomark _)) (qw_and1 (qt_cmp (od_ne hu1) (qv 14) (qe_ix (qe_orX (qe_lc (own := [("k", 24)]) (by rfl) sc_law.nd (qi_rng1 (by rfl) T.z_range (qv 3)) (blkOk_by (by kernel_rfl)) (by rfl) (fun _ _ _ _ _ => qg_name (i := 24) sc_law.nd rfl (by first | exact Or.inl rfl | exact Or.inr rfl)) (fun _ _ _ _ _ => qts_one (qt_cmp od_isnt (qe_call (ok__law_gain T) (hr.mono (by decide)) (by rfl) T.m__law_gain T.F__law_gain.kp T.b__law_gain pass0 (qb_cons (qv 8) (qb_cons (qv 5) (qb_cons (qv 6) (qb_cons (qv 24) (qb_nil)))))) (qe_non) (nomark _))) (fun _ _ _ _ _ => qe_tup (qa_cons (qv 24) (qa_cons (qe_call (ok__law_gain T) (hr.mono (by decide)) (by rfl) T.m__law_gain T.F__law_gain.kp T.b__law_gain pass0 (qb_cons (qv 8) (qb_cons (qv 5) (qb_cons (qv 6) (qb_cons (qv 24) (qb_nil)))))) (qa_nil))))) (qe_one (qe_lst (qa_cons (qe_non) (qa_nil))))) (qe_int) (fun _ _ => rfl)) (nomark _)))).qt) (qss_one (qs_ret (qe_bl))) (qss_nil))
          (qss_cons (qs_if ((qw_and (qt_cmp od_isnt (qv 14) (qe_non) (nomark _)) (qw_and1 (qt_cmp (od_ge hu1) (qe_callB cd_abs (by rfl) T.z_abs (by decide +kernel) (qa_cons (qe_op od_sub (qe_call (ok__law_chosen T) (hr.mono (by decide)) (by rfl) T.m__law_chosen T.F__law_chosen.kp T.b__law_chosen pass0 (qb_cons (qv 8) (qb_cons (qe_call (ok_told_otherwise T) (hr.mono (by decide)) (by rfl) T.m_told_otherwise T.F_told_otherwise.kp T.b_told_otherwise pass0 (qb_cons (qv 5) (qb_cons (qe_ix (qv 14) (qe_int) (fun _ _ => rfl)) (qb_cons (qe_ix (qv 14) (qe_int) (fun _ _ => rfl)) (qb_nil))))) (qb_cons (qv 6) (qb_nil))))) (qe_ix (qv 5) (qe_ix (qv 14) (qe_int) (fun _ _ => rfl)) (fun _ _ => rfl))) (qa_nil))) (qe_callB cd_abs (by rfl) T.z_abs (by decide +kernel) (qa_cons (qe_op od_sub (qe_call (ok__law_chosen T) (hr.mono (by decide)) (by rfl) T.m__law_chosen T.F__law_chosen.kp T.b__law_chosen pass0 (qb_cons (qv 8) (qb_cons (qv 5) (qb_cons (qv 6) (qb_nil))))) (qe_ix (qv 5) (qe_ix (qv 14) (qe_int) (fun _ _ => rfl)) (fun _ _ => rfl))) (qa_nil))) (nomark _)))).qt) (qss_one (qs_ret (qe_bl))) (qss_nil))
          (qss_cons (qs_asg (qe_call (ok_unbeaten T) (hr.mono (by decide)) (by rfl) T.m_unbeaten T.F_unbeaten.kp T.b_unbeaten pass0 (qb_cons (qv 5) (qb_nil))) (qg_tup (by rfl) (qgs_cons (qg_name (i := 15) sc_law.nd rfl (by first | exact Or.inl rfl | exact Or.inr rfl)) (qgs_cons (qg_name (i := 16) sc_law.nd rfl (by first | exact Or.inl rfl | exact Or.inr rfl)) (qgs_nil)))))
          (qss_cons (qs_set (i := 17) sc_law.nd rfl (by first | exact Or.inl rfl | exact Or.inr rfl) (qe_callB (cd_sortedA hu) (by rfl) T.z_sorted (by decide +kernel) (qa_cons (qv 5) (qa_nil))))
          (qss_cons (qs_if (qt_cmp (od_ne hu1) (qe_tup (qa_cons (qv 15) (qa_cons (qv 16) (qa_nil)))) (qe_tup (qa_cons (qe_ix (qv 17) (qe_op od_fdiv (qe_callTy cd_int (by rfl) T.z_int (by decide +kernel) (qa_cons (qe_op od_sub (qv 3) (qe_int)) (qa_nil))) (qe_int)) (fun _ _ => rfl)) (qa_cons (qe_ix (qv 17) (qe_op od_fdiv (qv 3) (qe_int)) (fun _ _ => rfl)) (qa_nil)))) (nomark _)) (qss_one (qs_ret (qe_bl))) (qss_nil))
          (qss_cons (qs_set (i := 19) sc_law.nd rfl (by first | exact Or.inl rfl | exact Or.inr rfl) (qe_lc (own := [("other", 12)]) (by rfl) sc_law.nd (qi_rng1 (by rfl) T.z_range (qe_callB (cd_min2 (by rfl)) (by rfl) T.z_min (by decide +kernel) (qa_cons (qe_int) (qa_cons (qe_op od_add (qv 4) (qe_int)) (qa_nil))))) (blkOk_by (by kernel_rfl)) (by rfl) (fun _ _ _ _ _ => qg_name (i := 12) sc_law.nd rfl (by first | exact Or.inl rfl | exact Or.inr rfl)) (fun _ _ _ _ _ => qts_nil) (fun _ _ _ _ _ => qe_callB (cd_sum (by rfl)) (by rfl) T.z_sum (by decide +kernel) (qa_cons (qe_lc (own := [("one", 18)]) (by rfl) sc_law.nd (qi_seq (qv 5)) (blkOk_by (by kernel_rfl)) (by rfl) (fun _ _ _ _ _ => qg_name (i := 18) sc_law.nd rfl (by first | exact Or.inl rfl | exact Or.inr rfl)) (fun _ _ _ _ _ => qts_nil) (fun _ _ _ _ _ => qe_callB cd_abs (by rfl) T.z_abs (by decide +kernel) (qa_cons (qe_op od_sub (qv 18) (qv 12)) (qa_nil)))) (qa_nil)))))
          (qss_cons (qs_if (qt_cmp (od_ne hu1) (qe_lc (own := [("other", 12)]) (by rfl) sc_law.nd (qi_rng1 (by rfl) T.z_range (qe_callB cd_len (by rfl) T.z_len (by decide +kernel) (qa_cons (qv 19) (qa_nil)))) (blkOk_by (by kernel_rfl)) (by rfl) (fun _ _ _ _ _ => qg_name (i := 12) sc_law.nd rfl (by first | exact Or.inl rfl | exact Or.inr rfl)) (fun _ _ _ _ _ => qts_one (qt_cmp (od_eq hu1) (qe_ix (qv 19) (qv 12) (fun _ _ => rfl)) (qe_callB (cd_minL (by rfl) hu) (by rfl) T.z_min (by decide +kernel) (qa_cons (qv 19) (qa_nil))) (nomark _))) (fun _ _ _ _ _ => qv 12)) (qe_listR2 (by rfl) (by rfl) T.z_list (by rfl) T.z_range (qv 15) (qe_op od_add (qv 16) (qe_int))) (nomark _)) (qss_one (qs_ret (qe_bl))) (qss_nil))
          (qss_cons (qs_for PassesOwn.never (by rfl) (qi_rng1 (by rfl) T.z_range (qe_int)) (qg_name (i := 20) sc_law.nd rfl (by first | exact Or.inl rfl | exact Or.inr rfl)) (qss_cons (qs_asg (qe_tup (qa_cons (qe_call (ok__law_take T) (hr.mono (by decide)) (by rfl) T.m__law_take T.F__law_take.kp T.b__law_take pass0 (qb_st 1 (qb_cons (qv 4) (qb_nil)))) (qa_cons (qe_call (ok__law_take T) (hr.mono (by decide)) (by rfl) T.m__law_take T.F__law_take.kp T.b__law_take pass0 (qb_st 1 (qb_cons (qv 4) (qb_nil)))) (qa_nil)))) (qg_tup (by rfl) (qgs_cons (qg_name (i := 18) sc_law.nd rfl (by first | exact Or.inl rfl | exact Or.inr rfl)) (qgs_cons (qg_name (i := 12) sc_law.nd rfl (by first | exact Or.inl rfl | exact Or.inr rfl)) (qgs_nil)))))
          (qss_cons (qs_set (i := 21) sc_law.nd rfl (by first | exact Or.inl rfl | exact Or.inr rfl) (qe_cmp (od_gt hu1) (qe_callB cd_len (by rfl) T.z_len (by decide +kernel) (qa_cons (qe_lc (own := [("k", 24)]) (by rfl) sc_law.nd (qi_seq (qv 5)) (blkOk_by (by kernel_rfl)) (by rfl) (fun _ _ _ _ _ => qg_name (i := 24) sc_law.nd rfl (by first | exact Or.inl rfl | exact Or.inr rfl)) (fun _ _ _ _ _ => qts_one (qt_cmp (od_lt hu1) (qe_callB cd_abs (by rfl) T.z_abs (by decide +kernel) (qa_cons (qe_op od_sub (qv 24) (qv 12)) (qa_nil))) (qe_callB cd_abs (by rfl) T.z_abs (by decide +kernel) (qa_cons (qe_op od_sub (qv 24) (qv 18)) (qa_nil))) (nomark _))) (fun _ _ _ _ _ => qv 24)) (qa_nil))) (qe_callB cd_len (by rfl) T.z_len (by decide +kernel) (qa_cons (qe_lc (own := [("k", 24)]) (by rfl) sc_law.nd (qi_seq (qv 5)) (blkOk_by (by kernel_rfl)) (by rfl) (fun _ _ _ _ _ => qg_name (i := 24) sc_law.nd rfl (by first | exact Or.inl rfl | exact Or.inr rfl)) (fun _ _ _ _ _ => qts_one (qt_cmp (od_lt hu1) (qe_callB cd_abs (by rfl) T.z_abs (by decide +kernel) (qa_cons (qe_op od_sub (qv 24) (qv 18)) (qa_nil))) (qe_callB cd_abs (by rfl) T.z_abs (by decide +kernel) (qa_cons (qe_op od_sub (qv 24) (qv 12)) (qa_nil))) (nomark _))) (fun _ _ _ _ _ => qv 24)) (qa_nil))) (nomark _)))
          (qss_cons (qs_if ((qw_or (qt_cmp (od_ne hu1) (qe_call (ok_beaten T) (hr.mono (by decide)) (by rfl) T.m_beaten T.F_beaten.kp T.b_beaten pass0 (qb_cons (qv 5) (qb_cons (qv 18) (qb_cons (qv 12) (qb_nil))))) (qv 21) (nomark _)) (qw_or ((qw_and (qt_chain (od_le hu1) (od_le hu1) (qv 15) (qv 18) (qv 16)) (qw_and1 (qt_val (qv 21)))).qt) (qw_or1 (qt_cmp (od_ne hu1) (qe_call (ok_distances T) (hr.mono (by decide)) (by rfl) T.m_distances T.F_distances.kp T.b_distances pass0 (qb_cons (qv 5) (qb_cons (qv 18) (qb_nil)))) (qe_callB (cd_sum (by rfl)) (by rfl) T.z_sum (by decide +kernel) (qa_cons (qe_lc (own := [("k", 24)]) (by rfl) sc_law.nd (qi_seq (qv 5)) (blkOk_by (by kernel_rfl)) (by rfl) (fun _ _ _ _ _ => qg_name (i := 24) sc_law.nd rfl (by first | exact Or.inl rfl | exact Or.inr rfl)) (fun _ _ _ _ _ => qts_nil) (fun _ _ _ _ _ => qe_callB cd_abs (by rfl) T.z_abs (by decide +kernel) (qa_cons (qe_op od_sub (qv 24) (qv 18)) (qa_nil)))) (qa_nil))) (nomark _))))).qt) (qss_one (qs_ret (qe_bl))) (qss_nil))
          (qss_one (qs_if ((qw_and (qt_not (qt_chain (od_le hu1) (od_le hu1) (qv 15) (qv 18) (qv 16))) (qw_and1 (qt_not (qt_val (qe_call (ok_beaten T) (hr.mono (by decide)) (by rfl) T.m_beaten T.F_beaten.kp T.b_beaten pass0 (qb_cons (qv 5) (qb_cons (qv 18) (qb_cons (qe_ifExp (qt_cmp (od_lt hu1) (qv 18) (qv 15) (nomark _)) (qv 15) (qv 16)) (qb_nil))))))))).qt) (qss_one (qs_ret (qe_bl))) (qss_nil)))))))
          (qss_cons (qs_set (i := 22) sc_law.nd rfl (by first | exact Or.inl rfl | exact Or.inr rfl) (qe_call (ok_two_spots T) (hr.mono (by decide)) (by rfl) T.m_two_spots T.F_two_spots.kp T.b_two_spots pass0 (qb_cons (qv 5) (qb_nil))))
          (qss_cons (qs_set (i := 14) sc_law.nd rfl (by first | exact Or.inl rfl | exact Or.inr rfl) (qe_callB (cd_sum (by rfl)) (by rfl) T.z_sum (by decide +kernel) (qa_cons (qe_lc (own := [("one", 18)]) (by rfl) sc_law.nd (qi_seq (qv 5)) (blkOk_by (by kernel_rfl)) (by rfl) (fun _ _ _ _ _ => qg_name (i := 18) sc_law.nd rfl (by first | exact Or.inl rfl | exact Or.inr rfl)) (fun _ _ _ _ _ => qts_nil) (fun _ _ _ _ _ => qe_callB (cd_min2 (by rfl)) (by rfl) T.z_min (by decide +kernel) (qa_cons (qe_callB cd_abs (by rfl) T.z_abs (by decide +kernel) (qa_cons (qe_op od_sub (qv 18) (qe_ix (qv 22) (qe_int) (fun _ _ => rfl))) (qa_nil))) (qa_cons (qe_callB cd_abs (by rfl) T.z_abs (by decide +kernel) (qa_cons (qe_op od_sub (qv 18) (qe_ix (qv 22) (qe_int) (fun _ _ => rfl))) (qa_nil))) (qa_nil))))) (qa_nil))))
          (qss_cons (qs_if ((qw_or (qt_cmp (od_gt hu1) (qe_ix (qv 22) (qe_int) (fun _ _ => rfl)) (qe_ix (qv 22) (qe_int) (fun _ _ => rfl)) (nomark _)) (qw_or1 ((qw_and (qt_cmp (od_lt hu1) (qv 4) (qe_int) (nomark _)) (qw_and1 (qt_cmp (od_ne hu1) (qv 14) (qe_callB (cd_minL (by rfl) hu) (by rfl) T.z_min (by decide +kernel) (qa_cons (qe_lc (own := [("a", 25)]) (by rfl) sc_law.nd (qi_rng1 (by rfl) T.z_range (qv 4)) (blkOk_by (by kernel_rfl)) (by rfl) (fun _ _ _ _ _ => qg_name (i := 25) sc_law.nd rfl (by first | exact Or.inl rfl | exact Or.inr rfl)) (fun _ _ _ _ _ => qts_nil) (fun _ _ _ _ _ => qe_callB (cd_minL (by rfl) hu) (by rfl) T.z_min (by decide +kernel) (qa_cons (qe_lc (own := [("b", 26)]) (by rfl) sc_law.nd (qi_rng1 (by rfl) T.z_range (qv 4)) (blkOk_by (by kernel_rfl)) (by rfl) (fun _ _ _ _ _ => qg_name (i := 26) sc_law.nd rfl (by first | exact Or.inl rfl | exact Or.inr rfl)) (fun _ _ _ _ _ => qts_nil) (fun _ _ _ _ _ => qe_callB (cd_sum (by rfl)) (by rfl) T.z_sum (by decide +kernel) (qa_cons (qe_lc (own := [("one", 18)]) (by rfl) sc_law.nd (qi_seq (qv 5)) (blkOk_by (by kernel_rfl)) (by rfl) (fun _ _ _ _ _ => qg_name (i := 18) sc_law.nd rfl (by first | exact Or.inl rfl | exact Or.inr rfl)) (fun _ _ _ _ _ => qts_nil) (fun _ _ _ _ _ => qe_callB (cd_min2 (by rfl)) (by rfl) T.z_min (by decide +kernel) (qa_cons (qe_callB cd_abs (by rfl) T.z_abs (by decide +kernel) (qa_cons (qe_op od_sub (qv 18) (qv 25)) (qa_nil))) (qa_cons (qe_callB cd_abs (by rfl) T.z_abs (by decide +kernel) (qa_cons (qe_op od_sub (qv 18) (qv 26)) (qa_nil))) (qa_nil))))) (qa_nil)))) (qa_nil)))) (qa_nil))) (nomark _)))).qt))).qt) (qss_one (qs_ret (qe_bl))) (qss_nil))
          (qss_cons (qs_for PassesOwn.never (by rfl) (qi_seq (qe_tup (qa_cons (qe_non) (qa_cons (qe_callTy cd_list (by rfl) T.z_list (by decide +kernel) (qa_cons (qv 5) (qa_nil))) (qa_cons (qe_tup (qa_nil)) (qa_cons (qe_op od_add (qv 5) (qe_tup (qa_cons (qe_int) (qa_nil)))) (qa_cons (qe_op od_add (qv 5) (qe_tup (qa_cons (qe_neg (qe_int)) (qa_nil)))) (qa_cons (qe_op od_add (qv 5) (qe_tup (qa_cons (qe_non) (qa_nil)))) (qa_cons (qe_op od_add (qv 5) (qe_tup (qa_cons (qe_bl) (qa_nil)))) (qa_cons (qe_op od_mul (qe_tup (qa_cons (qe_int) (qa_nil))) (qe_int)) (qa_nil))))))))))) (qg_name (i := 23) sc_law.nd rfl (by first | exact Or.inl rfl | exact Or.inr rfl)) (qss_one (qs_if (qt_cmp od_isnt (qe_call (ok_are_peaks T) (hr.mono (by decide)) (by rfl) T.m_are_peaks T.F_are_peaks.kp T.b_are_peaks pass0 (qb_cons (qv 23) (qb_nil))) (qe_bl) (nomark _)) (qss_one (qs_ret (qe_bl))) (qss_nil))))
          (qss_one (qs_for PassesOwn.never (by rfl) (qi_seq (qe_tup (qa_cons (qe_non) (qa_cons (qe_callTy cd_list (by rfl) T.z_list (by decide +kernel) (qa_cons (qv 6) (qa_nil))) (qa_cons (qe_op od_add (qv 6) (qe_tup (qa_cons (qe_int) (qa_nil)))) (qa_cons (qe_op od_add (qe_op od_mul (qe_tup (qa_cons (qe_non) (qa_nil))) (qe_op od_sub (qv 3) (qe_int))) (qe_tup (qa_cons (qe_non) (qa_nil)))) (qa_cons (qe_ifExp (qt_cmp (od_gt hu1) (qv 3) (qe_int) (nomark _)) (qe_op od_mul (qe_tup (qa_cons (qe_int) (qa_nil))) (qe_op od_sub (qv 3) (qe_int))) (qe_int)) (qa_nil)))))))) (qg_name (i := 23) sc_law.nd rfl (by first | exact Or.inl rfl | exact Or.inr rfl)) (qss_one (qs_if (qt_cmp od_isnt (qe_call (ok_are_ghosts T) (hr.mono (by decide)) (by rfl) T.m_are_ghosts T.F_are_ghosts.kp T.b_are_ghosts pass0 (qb_cons (qv 5) (qb_cons (qv 23) (qb_nil)))) (qe_bl) (nomark _)) (qss_one (qs_ret (qe_bl))) (qss_nil))))))))))))))))))))))))))))))))))
          (qss_one (qs_ret (qe_and (qe_cmp (od_eq hu1) (qe_call (ok_gainer T) (hr.mono (by decide)) (by rfl) T.m_gainer T.F_gainer.kp T.b_gainer pass0 (qb_cons (qe_str) (qb_cons (qe_tup (qa_cons (qe_int) (qa_cons (qe_int) (qa_nil)))) (qb_cons (qe_tup (qa_cons (qe_int) (qa_nil))) (qb_nil))))) (qe_tup (qa_cons (qe_int) (qa_cons (qe_int) (qa_nil)))) (nomark _)) (qe_and (qe_cmp od_is (qe_call (ok_gain T) (hr.mono (by decide)) (by rfl) T.m_gain T.F_gain.kp T.b_gain pass0 (qb_cons (qe_str) (qb_cons (qe_tup (qa_cons (qe_int) (qa_cons (qe_int) (qa_nil)))) (qb_cons (qe_tup (qa_cons (qe_int) (qa_nil))) (qb_cons (qe_int) (qb_nil)))))) (qe_non) (nomark _)) (qe_and (qe_cmp (od_eq hu1) (qe_call (ok_nearest T) (hr.mono (by decide)) (by rfl) T.m_nearest T.F_nearest.kp T.b_nearest pass0 (qb_cons (qe_int) (qb_cons (qe_tup (qa_cons (qe_int) (qa_cons (qe_int) (qa_nil)))) (qb_nil)))) (qe_int) (nomark _)) (qe_one (qe_cmp (od_eq hu1) (qe_call (ok_middle T) (hr.mono (by decide)) (by rfl) T.m_middle T.F_middle.kp T.b_middle pass0 (qb_cons (qe_tup (qa_cons (qe_int) (qa_nil))) (qb_cons (qe_tup (qa_nil)) (qb_nil)))) (qe_int) (nomark _))))))))) hlaw

end
end T68

namespace T68
theorem ilt (a b : Int) : a < b ∨ b ≤ a := by omega

/-! ### sorted rows and counts -/
def srt (l : List Int) : List Int := l.mergeSort fun a b => decide (a ≤ b)
theorem srt_perm (l : List Int) : (srt l).Perm l := List.mergeSort_perm l _
theorem srt_len (l : List Int) : (srt l).length = l.length := (srt_perm l).length_eq
theorem srt_sorted (l : List Int) : (srt l).Pairwise (· ≤ ·) := by
  have := List.pairwise_mergeSort (le := fun a b : Int => decide (a ≤ b)) (fun a b c h1 h2 => by simp at *; omega) (fun a b => by simp; omega) l
  exact this.imp fun h => by simpa using h
def lt (v : Int) (l : List Int) : Nat := l.countP fun x => decide (x < v)
def le (v : Int) (l : List Int) : Nat := l.countP fun x => decide (x ≤ v)
theorem lt_perm {l m : List Int} (h : l.Perm m) (v : Int) : lt v l = lt v m := h.countP_eq _
theorem le_perm {l m : List Int} (h : l.Perm m) (v : Int) : le v l = le v m := h.countP_eq _
theorem lt_mono {v w : Int} (h : v ≤ w) (l : List Int) : lt v l ≤ lt w l := List.countP_mono_left fun x _ hx => by simp at *; omega
theorem le_mono {v w : Int} (h : v ≤ w) (l : List Int) : le v l ≤ le w l := List.countP_mono_left fun x _ hx => by simp at *; omega
theorem lt_le (v : Int) (l : List Int) : lt v l ≤ le v l := List.countP_mono_left fun x _ hx => by simp at *; omega
theorem le_lt {v w : Int} (h : v < w) (l : List Int) : le v l ≤ lt w l := List.countP_mono_left fun x _ hx => by simp at *; omega
theorem le_len (v : Int) (l : List Int) : le v l ≤ l.length := List.countP_le_length
theorem lt_app (v : Int) (l m : List Int) : lt v (l ++ m) = lt v l + lt v m := List.countP_append ..
theorem le_app (v : Int) (l m : List Int) : le v (l ++ m) = le v l + le v m := List.countP_append ..
theorem lt_cons (v x : Int) (l : List Int) : lt v (x :: l) = lt v l + if x < v then 1 else 0 := by
  unfold lt; rw [List.countP_cons]; simp
theorem le_cons (v x : Int) (l : List Int) : le v (x :: l) = le v l + if x ≤ v then 1 else 0 := by
  unfold le; rw [List.countP_cons]; simp
/-- v stands at place k of the sorted row -/
def At (l : List Int) (k : Nat) (v : Int) : Prop := lt v l ≤ k ∧ k < le v l
theorem At.uniq {l : List Int} {k : Nat} {v w : Int} (h : At l k v) (g : At l k w) : v = w := by
  rcases Int.lt_trichotomy v w with c | c | c
  · have := le_lt c l; have := h.2; have := g.1; omega
  · exact c
  · have := le_lt c l; have := g.2; have := h.1; omega
theorem At.perm {l m : List Int} (p : l.Perm m) {k : Nat} {v : Int} (h : At l k v) : At m k v := by
  unfold At at *; rw [← lt_perm p, ← le_perm p]; exact h
theorem at_sorted : ∀ {l : List Int}, l.Pairwise (· ≤ ·) → ∀ {k : Nat} {v : Int}, l[k]? = some v → At l k v
  | [], _, k, v, h => by simp at h
  | x :: l, hs, k, v, h => by
    obtain ⟨h1, h2⟩ := List.pairwise_cons.mp hs
    cases k with
    | zero =>
      simp at h
      subst h
      refine ⟨?_, ?_⟩
      · rw [lt_cons]
        have : lt x l = 0 := List.countP_eq_zero.mpr fun y hy => by have := h1 y hy; simp; omega
        rw [this]; simp
      · rw [le_cons]; simp
    | succ k =>
      have h' : l[k]? = some v := by simpa using h
      have := at_sorted h2 h'
      have hv : v ∈ l := List.mem_of_getElem? h'
      have := h1 v hv
      refine ⟨?_, ?_⟩
      · rw [lt_cons]; have := this; split <;> (have := (at_sorted h2 h').1; omega)
      · rw [le_cons, if_pos (h1 v hv)]; have := (at_sorted h2 h').2; omega
theorem srt_at {l : List Int} {k : Nat} {v : Int} (h : (srt l)[k]? = some v) : At l k v := (at_sorted (srt_sorted l) h).perm (srt_perm l)
theorem srt_get {l : List Int} {k : Nat} (hk : k < l.length) : ∃ v, (srt l)[k]? = some v ∧ v ∈ l ∧ At l k v := by
  have hk2 : k < (srt l).length := by rw [srt_len]; exact hk
  refine ⟨(srt l)[k], List.getElem?_eq_getElem hk2, (srt_perm l).mem_iff.mp (List.getElem_mem hk2), srt_at (List.getElem?_eq_getElem hk2)⟩
theorem get_at {l : List Int} {k : Nat} {v : Int} (hk : k < l.length) (h : At l k v) : (srt l)[k]? = some v := by
  obtain ⟨w, h1, _, h2⟩ := srt_get hk
  rw [h1, h2.uniq h]
/-! ### the middle with one more -/
theorem mid_clamp {rest : List Int} {n : Nat} (hn : 2 ≤ n) (hl : rest.length + 2 = 2 * n) {lo hi : Int} (h1 : At rest (n - 2) lo) (h2 : At rest (n - 1) hi) (y : Int) : At (rest ++ [y]) (n - 1) (max lo (min hi y)) := by
  have hlh : lo ≤ hi := by
    rcases ilt hi lo with c | c
    · have := le_lt c rest; have := h1.1; have := h2.2; omega
    · exact c
  obtain ⟨a1, a2⟩ := h1
  obtain ⟨b1, b2⟩ := h2
  unfold At
  rw [lt_app, le_app]
  have t1 : ∀ v, lt v [y] = if y < v then 1 else 0 := fun v => by rw [lt_cons]; simp [lt]
  have t2 : ∀ v, le v [y] = if y ≤ v then 1 else 0 := fun v => by rw [le_cons]; simp [le]
  rw [t1, t2]
  rcases ilt y lo with c | c
  · have e : max lo (min hi y) = lo := by omega
    rw [e, if_pos c, if_pos (by omega)]
    omega
  · rcases ilt hi y with d | d
    · have e : max lo (min hi y) = hi := by omega
      rw [e, if_neg (by omega), if_neg (by omega)]
      omega
    · have e : max lo (min hi y) = y := by omega
      rw [e, if_neg (by omega), if_pos (by omega)]
      have := lt_mono d rest
      have := le_mono c rest
      omega
/-! ### sums of distances -/
def dist (o : Int) (l : List Int) : Int := (l.map fun x => ((x - o).natAbs : Int)).sum
theorem dist_cons (o x : Int) (l : List Int) : dist o (x :: l) = ((x - o).natAbs : Int) + dist o l := by unfold dist; rw [List.map_cons, List.sum_cons]
theorem dist_step (o : Int) : ∀ l : List Int, dist (o + 1) l = dist o l + 2 * (le o l : Int) - (l.length : Int)
  | [] => by simp [dist, le]
  | x :: l => by
    rw [dist_cons, dist_cons, dist_step o l, le_cons, List.length_cons]
    by_cases c : x ≤ o
    · rw [if_pos c]; omega
    · rw [if_neg c]; omega
section
variable {l : List Int} {low high : Int} (h1 : At l ((l.length - 1) / 2) low) (h2 : At l (l.length / 2) high)
include h1 h2
theorem low_high : low ≤ high := by
  rcases ilt high low with c | c
  · have := le_lt c l; have := h1.1; have := h2.2; omega
  · exact c
theorem dist_down (hl : 0 < l.length) {o : Int} (ho : o < low) : dist (o + 1) l < dist o l := by
  have := le_lt ho l
  have := h1.1
  rw [dist_step]; omega
theorem dist_up {o : Int} (ho : high ≤ o) : dist o l < dist (o + 1) l := by
  have := le_mono ho l
  have := h2.2
  rw [dist_step]; omega
theorem dist_flat (hl : 0 < l.length) {o : Int} (ho : low ≤ o) (ho2 : o < high) : dist (o + 1) l = dist o l := by
  have := le_mono ho l
  have := h1.2
  have := le_lt ho2 l
  have := h2.1
  rw [dist_step]; omega
theorem dist_low (hl : 0 < l.length) : ∀ k : Nat, dist low l < dist (low - (k + 1)) l
  | 0 => by
    have := dist_down h1 h2 hl (o := low - 1) (by omega)
    rw [show low - 1 + 1 = low by omega] at this
    simpa using this
  | k + 1 => by
    have := dist_low hl k
    have h := dist_down h1 h2 hl (o := low - ((k : Int) + 1 + 1)) (by omega)
    rw [show low - ((k : Int) + 1 + 1) + 1 = low - ((k : Int) + 1) by omega] at h
    have e : low - (((k + 1 : Nat) : Int) + 1) = low - ((k : Int) + 1 + 1) := by omega
    rw [e]; omega
theorem dist_mid (hl : 0 < l.length) : ∀ k : Nat, low + k ≤ high → dist (low + k) l = dist low l
  | 0, _ => by simp
  | k + 1, hk => by
    have := dist_mid hl k (by omega)
    have h := dist_flat h1 h2 hl (o := low + k) (by omega) (by omega)
    have e : low + ((k + 1 : Nat) : Int) = low + k + 1 := by omega
    rw [e, h, this]
theorem dist_high : ∀ k : Nat, dist high l < dist (high + (k + 1)) l
  | 0 => by simpa using dist_up h1 h2 (o := high) (by omega)
  | k + 1 => by
    have := dist_high k
    have h := dist_up h1 h2 (o := high + ((k : Int) + 1)) (by omega)
    have e : high + (((k + 1 : Nat) : Int) + 1) = high + ((k : Int) + 1) + 1 := by omega
    rw [e]; omega
theorem dist_in (hl : 0 < l.length) {o : Int} (a : low ≤ o) (b : o ≤ high) : dist o l = dist low l := by
  have := dist_mid h1 h2 hl (o - low).toNat (by omega)
  rwa [show low + ((o - low).toNat : Int) = o by omega] at this
theorem dist_out (hl : 0 < l.length) {o : Int} (a : ¬ (low ≤ o ∧ o ≤ high)) : dist low l < dist o l := by
  have hlh := low_high h1 h2
  rcases ilt o low with c | c
  · have := dist_low h1 h2 hl (low - o - 1).toNat
    rwa [show low - (((low - o - 1).toNat : Int) + 1) = o by omega] at this
  · have e := dist_in h1 h2 hl hlh (Int.le_refl _)
    have := dist_high h1 h2 (o - high - 1).toNat
    rw [show high + (((o - high - 1).toNat : Int) + 1) = o by omega] at this
    omega
theorem dist_min (hl : 0 < l.length) (o : Int) : dist low l ≤ dist o l := by
  by_cases c : low ≤ o ∧ o ≤ high
  · rw [dist_in h1 h2 hl c.1 c.2]; exact Int.le_refl _
  · exact Int.le_of_lt (dist_out h1 h2 hl c)
end
/-! ### who is nearer -/
def near (o i : Int) (l : List Int) : Nat := l.countP fun k => decide (((k - o).natAbs : Int) < ((k - i).natAbs : Int))
theorem near_self (o : Int) (l : List Int) : near o o l = 0 := List.countP_eq_zero.mpr fun x _ => by simp
theorem gt_count (v : Int) : ∀ l : List Int, (l.countP fun x => decide (v < x)) = l.length - le v l
  | [] => rfl
  | x :: l => by
    have := gt_count v l
    have := le_len v l
    rw [List.countP_cons, le_cons, List.length_cons]
    by_cases c : x ≤ v
    · rw [if_pos c, if_neg (by simp; omega)]; omega
    · rw [if_neg c, if_pos (by simp; omega)]; omega
theorem ge_count (v : Int) : ∀ l : List Int, (l.countP fun x => decide (v ≤ x)) = l.length - lt v l
  | [] => rfl
  | x :: l => by
    have := ge_count v l
    have : lt v l ≤ l.length := List.countP_le_length
    rw [List.countP_cons, lt_cons, List.length_cons]
    by_cases c : x < v
    · rw [if_pos c, if_neg (by simp; omega)]; omega
    · rw [if_neg c, if_pos (by simp; omega)]; omega
theorem near_up {o i : Int} (h : i < o) (l : List Int) : near o i l ≤ l.length - le i l := by
  rw [← gt_count]
  exact List.countP_mono_left fun x _ hx => by simp at *; omega
theorem near_up' {o i : Int} (h : i < o) (l : List Int) : le i l ≤ near i o l :=
  List.countP_mono_left fun x _ hx => by simp at *; omega
theorem near_down {o i : Int} (h : o < i) (l : List Int) : near o i l ≤ lt i l :=
  List.countP_mono_left fun x _ hx => by simp at *; omega
theorem near_down' {o i : Int} (h : o < i) (l : List Int) : l.length - lt i l ≤ near i o l := by
  rw [← ge_count]
  exact List.countP_mono_left fun x _ hx => by simp at *; omega
section
variable {l : List Int} {low high : Int} (h1 : At l ((l.length - 1) / 2) low) (h2 : At l (l.length / 2) high)
include h1 h2
theorem unbeaten_in {i : Int} (a : low ≤ i) (b : i ≤ high) (o : Int) : near o i l ≤ near i o l := by
  rcases Int.lt_trichotomy i o with c | c | c
  · have := near_up c l
    have := near_up' c l
    have := le_mono a l
    have := h1.2
    omega
  · subst c; exact Nat.le_refl _
  · have := near_down c l
    have := near_down' c l
    have := lt_mono b l
    have := h2.1
    have := le_len high l
    have := h2.2
    omega
theorem beaten_low {i : Int} (a : i < low) : near i low l < near low i l := by
  have := near_down a l
  have := near_down' a l
  have := h1.1
  have := le_len low l
  have := h1.2
  omega
theorem beaten_high {i : Int} (a : high < i) : near i high l < near high i l := by
  have := near_up a l
  have := near_up' a l
  have := h2.2
  have := le_len high l
  omega
end
/-! ### two spots -/
def dist2 (a b : Int) (l : List Int) : Int := (l.map fun x => min ((x - a).natAbs : Int) ((x - b).natAbs : Int)).sum
theorem dist2_app (a b : Int) (l m : List Int) : dist2 a b (l ++ m) = dist2 a b l + dist2 a b m := by unfold dist2; rw [List.map_append, List.sum_append]
theorem dist_app (a : Int) (l m : List Int) : dist a (l ++ m) = dist a l + dist a m := by unfold dist; rw [List.map_append, List.sum_append]
theorem dist2_cons (a b x : Int) (l : List Int) : dist2 a b (x :: l) = min ((x - a).natAbs : Int) ((x - b).natAbs : Int) + dist2 a b l := by unfold dist2; rw [List.map_cons, List.sum_cons]
theorem dist2_le (a b : Int) : ∀ l, dist2 a b l ≤ dist a l ∧ dist2 a b l ≤ dist b l
  | [] => by simp [dist2, dist]
  | x :: l => by
    have := dist2_le a b l
    rw [dist2_cons, dist_cons, dist_cons]; omega
theorem dist2_comm (a b : Int) : ∀ l, dist2 a b l = dist2 b a l
  | [] => rfl
  | x :: l => by rw [dist2_cons, dist2_cons, dist2_comm a b l, Int.min_comm]
theorem dist2_perm (a b : Int) {l m : List Int} (h : l.Perm m) : dist2 a b l = dist2 a b m := by
  unfold dist2
  have : ∀ {l m : List Int}, l.Perm m → l.sum = m.sum := fun h => by
    induction h with
    | nil => rfl
    | cons x _ ih => rw [List.sum_cons, List.sum_cons, ih]
    | swap x y l => simp only [List.sum_cons]; omega
    | trans _ _ a b => exact a.trans b
  exact this (h.map _)
/-- a sorted row parts in two at the half way -/
theorem part_row {a b : Int} (hab : a ≤ b) : ∀ {l : List Int}, l.Pairwise (· ≤ ·) → ∃ c, c ≤ l.length ∧ dist2 a b l = dist a (l.take c) + dist b (l.drop c)
  | [], _ => ⟨0, Nat.le_refl _, by simp [dist2, dist]⟩
  | x :: l, hs => by
    obtain ⟨h1, h2⟩ := List.pairwise_cons.mp hs
    by_cases c : 2 * x ≤ a + b
    · obtain ⟨k, hk, e⟩ := part_row hab h2
      refine ⟨k + 1, by simp; omega, ?_⟩
      rw [dist2_cons, e, List.take_succ_cons, List.drop_succ_cons, dist_cons]
      omega
    · refine ⟨0, Nat.zero_le _, ?_⟩
      rw [List.take_zero, List.drop_zero, show dist a [] = 0 from rfl, Int.zero_add]
      have : ∀ m : List Int, (∀ y ∈ m, a + b < 2 * y) → dist2 a b m = dist b m := by
        intro m
        induction m with
        | nil => intro _; rfl
        | cons y m ih =>
          intro h
          have hy := h y (List.mem_cons_self ..)
          rw [dist2_cons, dist_cons, ih fun z hz => h z (List.mem_cons_of_mem _ hz)]
          omega
      refine this _ fun y hy => ?_
      rcases List.mem_cons.mp hy with rfl | hy
      · omega
      · have := h1 y hy; omega
end T68

namespace T68
open PySem PySem.Spec PyProof.Rows L2 Dw
open PySem.W (Datum Tup)

def tD (l : List Int) : D := .tuple (l.map PyData.int)
theorem tD_len (l : List Int) : (l.map PyData.int).length = l.length := List.length_map ..
theorem dep0 (x y : D) (h : x.depth = 0 := by rfl) : min x.depth y.depth ≤ 100 := by omega
theorem sz2 (x y : D) : [x, y].length ≤ sizeLine := show 2 ≤ sizeLine by decide
def midF (l : List Int) (k : Nat) : Int := ((srt l)[k]?).getD 0
theorem midF_get {l : List Int} {k : Nat} (hk : k < l.length) : (srt l)[k]? = some (midF l k) ∧ At l k (midF l k) ∧ midF l k ∈ l := by
  obtain ⟨v, h1, h2, h3⟩ := srt_get hk
  have : midF l k = v := by unfold midF; rw [h1]; rfl
  rw [this]; exact ⟨h1, h3, h2⟩
theorem midF_at {l : List Int} {k : Nat} (hk : k < l.length) {v : Int} (h : At l k v) : midF l k = v := (midF_get hk).2.1.uniq h
theorem atI_mid {l : List Int} {k : Nat} (hk : k < l.length) : atI ((srt l).map PyData.int) (k : Int) = some (.int (midF l k)) := atI_n (by rw [List.getElem?_map, (midF_get hk).1]; rfl)
theorem sorted_t (l : List Int) {P : D → Prop} (h : P (.list ((srt l).map PyData.int))) : sortedA [.tuple (l.map PyData.int)] P :=
  ⟨⟨allAlike_ints _, sortable_ints _, depth_ints _⟩, by rw [sort_ints]; exact h⟩
theorem sorted_l (l : List Int) {P : D → Prop} (h : P (.list ((srt l).map PyData.int))) : sortedA [.list (l.map PyData.int)] P :=
  ⟨⟨allAlike_ints _, sortable_ints _, depth_ints _⟩, by rw [sort_ints]; exact h⟩
theorem sorted_dt {fa : DA} {ρ : Dw.Env} (l : List Int) {P : D → Prop} (hf : ∀ K : List D → Prop, K [tD l] → fa ρ K) (h : P (.list ((srt l).map PyData.int))) : dCB sortedA fa ρ P := hf _ (sorted_t l h)
theorem sorted_dl {fa : DA} {ρ : Dw.Env} (l : List Int) {P : D → Prop} (hf : ∀ K : List D → Prop, K [.list (l.map PyData.int)] → fa ρ K) (h : P (.list ((srt l).map PyData.int))) : dCB sortedA fa ρ P := hf _ (sorted_l l h)
theorem middle_ok (ps gs : List Int) {P : D → Prop} (h0 : 0 < ps.length) (hl : ps.length + gs.length ≤ 1000) (h : P (.int (midF (ps ++ gs) (ps.length - 1)))) : wp_middle [.d (tD ps), .d (tD gs)] P := by
  refine sorted_dt (ps ++ gs) (fun K k => ⟨_, rfl, _, rfl, by rw [tD_len, tD_len]; exact size_big (by omega), ?_⟩) ?_
  · rw [← List.map_append]; exact k
  refine ⟨_, rfl, _, rfl, ?_⟩
  show ∃ d, atI ((srt (ps ++ gs)).map PyData.int) (((ps.map PyData.int).length : Nat) - 1 : Int) = some d ∧ P d
  rw [tD_len, show (ps.length : Int) - 1 = ((ps.length - 1 : Nat) : Int) by omega]
  exact ⟨_, atI_mid (by rw [List.length_append]; omega), h⟩
theorem law_middle_ok (ps gs : List Int) {P : D → Prop} (h0 : 0 < ps.length + gs.length) (hl : ps.length + gs.length ≤ 1000) (h : P (.int (midF (ps ++ gs) ((ps.length + gs.length) / 2)))) : wp__law_middle [.d (tD ps), .d (tD gs)] P := by
  refine sorted_dl (ps ++ gs) (fun K k => ⟨_, rfl, _, rfl, by rw [tD_len, tD_len]; exact size_big (by omega), ?_⟩) ?_
  · rw [← List.map_append]; exact k
  refine ⟨_, rfl, _, rfl, ⟨by decide, by decide⟩, ?_⟩
  show ∃ d, atI ((srt (ps ++ gs)).map PyData.int) ((((srt (ps ++ gs)).map PyData.int).length : Nat) / 2 : Int) = some d ∧ P d
  rw [tD_len, srt_len, List.length_append, show ((ps.length + gs.length : Nat) : Int) / 2 = (((ps.length + gs.length) / 2 : Nat) : Int) by omega]
  exact ⟨_, atI_mid (by rw [List.length_append]; omega), h⟩
theorem log2_mono {a b : Nat} (h : a ≤ b) : a.log2 ≤ b.log2 := by
  by_cases c : a = 0
  · subst c; exact Nat.zero_le _
  · exact (Nat.le_log2 (by omega)).mpr (Nat.le_trans (Nat.log2_self_le c) h)
theorem mean_ok (ps : List Int) {P : D → Prop} (h0 : 0 < ps.length) (hl : ps.length ≤ 1000) (h : P (.int (ps.sum / ps.length))) : wp_mean [.d (tD ps)] P := by
  refine ⟨_, rfl, _, ps, rfl, rfl, _, rfl, ⟨by rw [tD_len]; omega, ?_⟩, by rw [tD_len]; exact h⟩
  rw [tD_len, Int.natAbs_natCast]
  exact Nat.lt_of_le_of_lt (log2_mono (show ps.length ≤ 2 ^ 12 by omega)) (by decide)
def mnF : List Int → Int
  | [] => 0
  | x :: r => PySem.W.minOf x r
def mxF : List Int → Int
  | [] => 0
  | x :: r => PySem.W.maxOf x r
theorem minOf_spec : ∀ (r : List Int) (x : Int), PySem.W.minOf x r ∈ x :: r ∧ ∀ y ∈ x :: r, PySem.W.minOf x r ≤ y
  | [], x => ⟨List.mem_singleton.mpr rfl, fun y hy => by rw [List.mem_singleton] at hy; subst hy; exact Int.le_refl _⟩
  | z :: r, x => by
    have e : PySem.W.minOf x (z :: r) = PySem.W.minOf (if z < x then z else x) r := by
      show List.foldl _ _ _ = _
      rw [List.foldl_cons]
      congr 1
      show (if decide (z < x) = true then z else x) = _
      by_cases c : z < x <;> simp [c]
    rw [e]
    obtain ⟨h1, h2⟩ := minOf_spec r (if z < x then z else x)
    have h3 := h2 _ (List.mem_cons_self ..)
    have h4 : (if z < x then z else x) ≤ z ∧ (if z < x then z else x) ≤ x := by split <;> omega
    refine ⟨?_, fun y hy => ?_⟩
    · rcases List.mem_cons.mp h1 with h | h
      · rw [h]; split <;> simp
      · exact List.mem_cons_of_mem _ (List.mem_cons_of_mem _ h)
    · rcases List.mem_cons.mp hy with rfl | hy
      · exact Int.le_trans h3 h4.2
      · rcases List.mem_cons.mp hy with rfl | hy
        · exact Int.le_trans h3 h4.1
        · exact h2 y (List.mem_cons_of_mem _ hy)
theorem alike_list (d : D) (l : List D) (h : ∃ ns : List Int, d :: l = ns.map PyData.int) : PySem.W.AlikeAll (d :: l) ∧ PyData.depthAll (d :: l) ≤ 100 := by
  obtain ⟨ns, e⟩ := h
  rw [e]
  exact ⟨PySem.W.alikeAll_datum ns, depth_ints ns⟩
theorem min_t (l : List Int) {P : D → Prop} (h0 : 0 < l.length) (h : P (.int (mnF l))) : minL [.tuple (l.map PyData.int)] P := by
  cases l with
  | nil => exact absurd h0 (by simp)
  | cons x r => exact ⟨alike_list _ _ ⟨x :: r, rfl⟩, by rw [show PySem.W.minD (.int x) (r.map PyData.int) = .int (PySem.W.minOf x r) from PySem.W.minD_map x r]; exact h⟩
theorem min_l (l : List Int) {P : D → Prop} (h0 : 0 < l.length) (h : P (.int (mnF l))) : minL [.list (l.map PyData.int)] P := by
  cases l with
  | nil => exact absurd h0 (by simp)
  | cons x r => exact ⟨alike_list _ _ ⟨x :: r, rfl⟩, by rw [show PySem.W.minD (.int x) (r.map PyData.int) = .int (PySem.W.minOf x r) from PySem.W.minD_map x r]; exact h⟩
theorem max_t (l : List Int) {P : D → Prop} (h0 : 0 < l.length) (h : P (.int (mxF l))) : maxL [.tuple (l.map PyData.int)] P := by
  cases l with
  | nil => exact absurd h0 (by simp)
  | cons x r => exact ⟨alike_list _ _ ⟨x :: r, rfl⟩, by rw [show PySem.W.maxD (.int x) (r.map PyData.int) = .int (PySem.W.maxOf x r) from PySem.W.maxD_map x r]; exact h⟩
theorem min_dt {fa : DA} {ρ : Dw.Env} (l : List Int) {P : D → Prop} (h0 : 0 < l.length) (hf : ∀ K : List D → Prop, K [tD l] → fa ρ K) (h : P (.int (mnF l))) : dCB minL fa ρ P := hf _ (min_t l h0 h)
theorem max_dt {fa : DA} {ρ : Dw.Env} (l : List Int) {P : D → Prop} (h0 : 0 < l.length) (hf : ∀ K : List D → Prop, K [tD l] → fa ρ K) (h : P (.int (mxF l))) : dCB maxL fa ρ P := hf _ (max_t l h0 h)
theorem min_dl {fa : DA} {ρ : Dw.Env} (l : List Int) {P : D → Prop} (h0 : 0 < l.length) (hf : ∀ K : List D → Prop, K [.list (l.map PyData.int)] → fa ρ K) (h : P (.int (mnF l))) : dCB minL fa ρ P := hf _ (min_l l h0 h)
theorem mnF_spec {l : List Int} (h0 : 0 < l.length) : mnF l ∈ l ∧ ∀ y ∈ l, mnF l ≤ y := by
  cases l with
  | nil => exact absurd h0 (by simp)
  | cons x r => exact minOf_spec r x
theorem ends_ok (ps : List Int) {P : D → Prop} (h0 : 0 < ps.length) (h : P (.int ((mnF ps + mxF ps) / 2))) : wp_ends [.d (tD ps)] P :=
  min_dt ps h0 (fun K k => ⟨_, rfl, k⟩) (max_dt ps h0 (fun K k => ⟨_, rfl, k⟩) ⟨⟨by decide, by decide⟩, h⟩)
def put (ps : List Int) (i : Nat) (s : Int) : List Int := ps.take i ++ [s] ++ ps.drop (i + 1)
theorem put_len {ps : List Int} {i : Nat} (hi : i < ps.length) (s : Int) : (put ps i s).length = ps.length := by
  unfold put; simp; omega
theorem put_perm {ps : List Int} {i : Nat} (s : Int) : (put ps i s).Perm ((ps.take i ++ ps.drop (i + 1)) ++ [s]) := by
  unfold put
  rw [List.append_assoc, List.append_assoc]
  exact List.Perm.append_left _ List.perm_append_comm
theorem put_self {ps : List Int} {i : Nat} (hi : i < ps.length) : put ps i ps[i] = ps := by
  unfold put
  rw [List.append_assoc, List.singleton_append, List.getElem_cons_drop, List.take_append_drop]
theorem cut_pre (l : List Int) {i : Nat} (hi : i ≤ l.length) : Dw.cutD (l.map PyData.int) none (some (i : Int)) = (l.take i).map PyData.int := by
  unfold Dw.cutD
  rw [HT.sIx_none, HT.sIx_nat, Nat.sub_zero, List.drop_zero, tD_len, Nat.min_eq_left hi, List.map_take]
theorem cut_post (l : List Int) {i : Nat} (hi : i ≤ l.length) : Dw.cutD (l.map PyData.int) (some (i : Int)) none = (l.drop i).map PyData.int := by
  unfold Dw.cutD
  rw [HT.sIx_none, HT.sIx_nat, tD_len, Nat.min_eq_left hi, List.map_drop]
  exact List.take_of_length_le (by simp)
theorem told_ok (ps : List Int) (i : Nat) (s : Int) {P : D → Prop} (hi : i < ps.length) (hl : ps.length ≤ 1000) (h : P (tD (put ps i s))) : wp_told_otherwise [.d (tD ps), .d (.int i), .d (.int s)] P := by
  refine ⟨_, rfl, _, rfl, _, rfl, _, rfl, show 1 ≤ sizeLine by decide, ?_⟩
  show addD (.tuple (Dw.cutD (ps.map PyData.int) none (some (i : Int)))) (.tuple [PyData.int s]) _
  rw [cut_pre ps (by omega)]
  refine ⟨size_big (by simp; omega), _, rfl, _, rfl, _, rfl, ?_⟩
  show addD (.tuple ((ps.take i).map PyData.int ++ [PyData.int s])) (.tuple (Dw.cutD (ps.map PyData.int) (some ((i : Int) + 1)) none)) _
  rw [show (i : Int) + 1 = ((i + 1 : Nat) : Int) by omega, cut_post ps (by omega)]
  refine ⟨size_big (by simp; omega), ?_⟩
  unfold tD put at h
  rw [List.map_append, List.map_append] at h
  exact h
theorem nearest_ok (x a b : Int) {P : D → Prop} (h : P (.int (max a (min b x)))) : wp_nearest [.d (.int x), .d (.tuple [.int a, .int b])] P :=
  ⟨_, rfl, _, rfl, _, rfl, _, rfl, _, rfl, h⟩
theorem near_len (o i : Int) (l : List Int) : ((l.filter fun k => decide (((k - o).natAbs : Int) < ((k - i).natAbs : Int))).length) = near o i l := by
  unfold near; rw [List.countP_eq_length_filter]
theorem beaten_ok (ps : List Int) (i o : Int) {P : D → Prop} (hl : ps.length ≤ 1000) (h : P (.bool (decide (near i o ps < near o i ps)))) : wp_beaten [.d (tD ps), .d (.int i), .d (.int o)] P := by
  refine ⟨_, rfl, ?_⟩
  refine wComp_t PyData.int (fun k => decide (((k - o).natAbs : Int) < ((k - i).natAbs : Int))) (fun _ => .int 1) ps (fun a _ K1 K2 k1 k2 => ⟨_, rfl, _, rfl, _, rfl, _, rfl, _, rfl, go_if k1 k2⟩) (size_big (by omega)) ?_
  refine ⟨_, rfl, _, rfl, ?_⟩
  refine wComp_t PyData.int (fun k => decide (((k - i).natAbs : Int) < ((k - o).natAbs : Int))) (fun _ => .int 1) ps (fun a _ K1 K2 k1 k2 => ⟨_, rfl, _, rfl, _, rfl, _, rfl, _, rfl, go_if k1 k2⟩) (size_big (by omega)) ?_
  show P (.bool (decide (((((ps.filter fun k => decide (((k - i).natAbs : Int) < ((k - o).natAbs : Int))).map fun _ => PyData.int 1).length : Nat) : Int) < ((((ps.filter fun k => decide (((k - o).natAbs : Int) < ((k - i).natAbs : Int))).map fun _ => PyData.int 1).length : Nat) : Int))))
  rw [List.length_map, List.length_map, near_len, near_len]
  rw [show decide (((near i o ps : Nat) : Int) < ((near o i ps : Nat) : Int)) = decide (near i o ps < near o i ps) from decide_eq_decide.mpr (by omega)]
  exact h
theorem unbeaten_ok (ps : List Int) {P : D → Prop} (h0 : 0 < ps.length) (h : P (.tuple [.int (midF ps ((ps.length - 1) / 2)), .int (midF ps (ps.length / 2))])) : wp_unbeaten [.d (tD ps)] P := by
  refine sorted_dt ps (fun K k => ⟨_, rfl, k⟩) ⟨_, rfl, _, rfl, ⟨by decide, by decide⟩, ?_⟩
  have e1 : ((((srt ps).map PyData.int).length : Nat) - 1 : Int) / 2 = (((ps.length - 1) / 2 : Nat) : Int) := by rw [tD_len, srt_len]; omega
  have e2 : ((((srt ps).map PyData.int).length : Nat) : Int) / 2 = ((ps.length / 2 : Nat) : Int) := by rw [tD_len, srt_len]; omega
  refine ⟨_, (congrArg (atI _) e1).trans (atI_mid (by omega)), _, rfl, _, rfl, ⟨by decide, by decide⟩, _, (congrArg (atI _) e2).trans (atI_mid (by omega)), sz2 _ _, h⟩
theorem distances_ok (ps : List Int) (o : Int) {P : D → Prop} (hl : ps.length ≤ 1000) (h : P (.int (dist o ps))) : wp_distances [.d (tD ps), .d (.int o)] P := by
  refine ⟨_, rfl, ?_⟩
  refine wComp_tm PyData.int (fun k => .int ((k - o).natAbs : Int)) ps (fun a _ K k => ⟨_, rfl, _, rfl, k⟩) (size_big (by omega)) ?_
  exact ⟨_, ps.map fun k => ((k - o).natAbs : Int), rfl, by rw [List.map_map]; rfl, h⟩
end T68

namespace T68
open PySem PySem.Spec PyProof.Rows L2 Dw
open PySem.W (Datum Tup)

def whole (x : D) (lo hi : Int) : Bool := match x with
  | .int i => decide (lo ≤ i) && decide (i ≤ hi)
  | _ => false
theorem is_whole_ok (x : D) (lo hi : Int) {P : D → Prop} (h : P (.bool (whole x lo hi))) : wp_is_whole [.d x, .d (.int lo), .d (.int hi)] P := by
  cases x with
  | int i =>
    refine ⟨_, rfl, _, rfl, _, rfl, _, rfl, _, rfl, _, rfl, _, rfl, _, rfl, ?_⟩
    have h : P (.bool (decide (lo ≤ i) && decide (i ≤ hi))) := h
    refine go_if (fun h1 => ?_) (fun h1 => ?_)
    · rw [h1, Bool.true_and] at h
      exact ⟨_, rfl, h⟩
    · rw [h1, Bool.false_and] at h
      exact h
  | bool b => exact ⟨_, rfl, _, rfl, _, rfl, _, rfl, _, rfl, h⟩
  | none => exact ⟨_, rfl, _, rfl, h⟩
  | str s => exact ⟨_, rfl, _, rfl, h⟩
  | list s => exact ⟨_, rfl, _, rfl, h⟩
  | tuple s => exact ⟨_, rfl, _, rfl, h⟩
  | dict s => exact ⟨_, rfl, _, rfl, h⟩
def wh (x : D) : Bool := whole x 0 1000
theorem all_map (f : D → Bool) (ds : List D) : (ds.map f).all id = ds.all f := by rw [List.all_map]; rfl
theorem are_peaks_not (x : D) {P : D → Prop} (hx : PyData.isTuple x = false) (h : P (.bool false)) : wp_are_peaks [.d x] P :=
  ⟨_, rfl, _, rfl, go_yes (by rw [hx]; rfl) h⟩
theorem are_peaks_ok (ds : List D) {P : D → Prop} (h : P (.bool ((decide (1 ≤ ds.length) && decide (ds.length ≤ 15)) && ds.all wh))) : wp_are_peaks [.d (.tuple ds)] P := by
  refine ⟨_, rfl, _, rfl, go_no rfl ⟨_, rfl, _, rfl, ?_⟩⟩
  have e1 : decide ((1 : Int) ≤ (ds.length : Nat)) = decide (1 ≤ ds.length) := decide_eq_decide.mpr (by omega)
  have e2 : decide (((ds.length : Nat) : Int) ≤ 15) = decide (ds.length ≤ 15) := decide_eq_decide.mpr (by omega)
  refine go_if (fun h1 => ?_) (fun h1 => ?_)
  · refine ⟨_, rfl, go_if (fun h2 => ?_) (fun h2 => ?_)⟩
    · have h2 : decide (((ds.length : Nat) : Int) ≤ 15) = false := by rw [Bool.not_eq_true'] at h2; exact h2
      rw [← e2, h2, Bool.and_false, Bool.false_and] at h
      exact h
    · have h2 : decide (((ds.length : Nat) : Int) ≤ 15) = true := by rw [Bool.not_eq_false'] at h2; exact h2
      rw [← e1, h1, ← e2, h2, Bool.true_and, Bool.true_and] at h
      refine ⟨_, rfl, ?_⟩
      have h3 : ds.length ≤ 15 := by rw [e2] at h2; exact of_decide_eq_true h2
      have := wComp_tm (g := gN 1) (te := dCall wp_is_whole (bCons (dVar 1) (bCons (dC (.int 0)) (bCons (dC (.int 1000)) bNil)))) (ρ := [some (.d (.tuple ds)), none]) id (fun d => PyData.bool (wh d)) ds
        (P := fun out => allD [.list out] P) (fun a _ K k => ⟨_, rfl, is_whole_ok _ _ _ k⟩) (size_big (by omega)) ⟨ds.map wh, by rw [List.map_map]; rfl, by rw [all_map]; exact h⟩
      rw [List.map_id] at this
      exact this
  · rw [← e1, h1, Bool.false_and, Bool.false_and] at h
    exact ⟨_, rfl, h⟩
theorem are_ghosts_not (x y : D) {P : D → Prop} (hx : PyData.isTuple y = false) (h : P (.bool false)) : wp_are_ghosts [.d x, .d y] P :=
  ⟨_, rfl, _, rfl, go_yes (by rw [hx]; rfl) h⟩
theorem are_ghosts_ok (ps ds : List D) {P : D → Prop} (hd : ds.length ≤ 1000) (h : P (.bool (decide (ds.length + 1 = ps.length) && ds.all wh))) : wp_are_ghosts [.d (.tuple ps), .d (.tuple ds)] P := by
  refine ⟨_, rfl, _, rfl, go_no rfl ⟨_, rfl, _, rfl, dep0 _ _, _, rfl, ?_⟩⟩
  rw [eqv_int]
  have e1 : decide (((ds.length : Nat) : Int) = ((ps.length : Nat) : Int) - 1) = decide (ds.length + 1 = ps.length) := decide_eq_decide.mpr (by omega)
  rw [e1]
  refine go_if (fun h1 => ?_) (fun h1 => ?_)
  · have h1 : decide (ds.length + 1 = ps.length) = false := by rw [Bool.not_eq_true'] at h1; exact h1
    rw [h1, Bool.false_and] at h
    exact h
  · have h1 : decide (ds.length + 1 = ps.length) = true := by rw [Bool.not_eq_false'] at h1; exact h1
    rw [h1, Bool.true_and] at h
    refine ⟨_, rfl, ?_⟩
    have := wComp_tm (g := gN 2) (te := dCall wp_is_whole (bCons (dVar 2) (bCons (dC (.int 0)) (bCons (dC (.int 1000)) bNil)))) (ρ := [some (.d (.tuple ps)), some (.d (.tuple ds)), none]) id (fun d => PyData.bool (wh d)) ds
      (P := fun out => allD [.list out] P) (fun a _ K k => ⟨_, rfl, is_whole_ok _ _ _ k⟩) (size_big (by omega)) ⟨ds.map wh, by rw [List.map_map]; rfl, by rw [all_map]; exact h⟩
    rw [List.map_id] at this
    exact this
inductive Rule where
  | middle | mean | ends
def Rule.s : Rule → Str
  | .middle => "middle"
  | .mean => "mean"
  | .ends => "ends"
def chF (r : Rule) (ps gs : List Int) : Int := match r with
  | .middle => midF (ps ++ gs) (ps.length - 1)
  | .mean => ps.sum / ps.length
  | .ends => (mnF ps + mxF ps) / 2
theorem chosen_ok (r : Rule) (ps gs : List Int) {P : D → Prop} (h0 : 0 < ps.length) (hl : ps.length + gs.length ≤ 1000) (h : P (.int (chF r ps gs))) : wp_chosen [.d (.str r.s), .d (tD ps), .d (tD gs)] P := by
  cases r with
  | middle => exact ⟨_, rfl, dep0 _ _, _, rfl, go_yes (by decide +kernel) ⟨_, rfl, _, rfl, middle_ok ps gs h0 hl h⟩⟩
  | mean => exact ⟨_, rfl, dep0 _ _, _, rfl, go_no (by decide +kernel) ⟨_, rfl, dep0 _ _, _, rfl, go_yes (by decide +kernel) ⟨_, rfl, mean_ok ps h0 (by omega) h⟩⟩⟩
  | ends => exact ⟨_, rfl, dep0 _ _, _, rfl, go_no (by decide +kernel) ⟨_, rfl, dep0 _ _, _, rfl, go_no (by decide +kernel) ⟨_, rfl, ends_ok ps h0 h⟩⟩⟩
theorem law_chosen_ok (r : Rule) (ps gs : List Int) {P : D → Prop} (h0 : 0 < ps.length) (hg : gs.length + 1 = ps.length) (hl : ps.length + gs.length ≤ 1000) (h : P (.int (chF r ps gs))) : wp__law_chosen [.d (.str r.s), .d (tD ps), .d (tD gs)] P := by
  cases r with
  | middle =>
    refine ⟨_, rfl, dep0 _ _, _, rfl, go_yes (by decide +kernel) ⟨_, rfl, _, rfl, law_middle_ok ps gs (by omega) hl ?_⟩⟩
    rw [show (ps.length + gs.length) / 2 = ps.length - 1 by omega]
    exact h
  | mean =>
    refine ⟨_, rfl, dep0 _ _, _, rfl, go_no (by decide +kernel) ⟨_, rfl, dep0 _ _, _, rfl, go_yes (by decide +kernel) ⟨_, rfl, _, ps, rfl, rfl, _, rfl, ⟨by rw [tD_len]; omega, ?_⟩, by rw [tD_len]; exact h⟩⟩⟩
    rw [tD_len, Int.natAbs_natCast]
    exact Nat.lt_of_le_of_lt (log2_mono (show ps.length ≤ 2 ^ 12 by omega)) (by decide)
  | ends => exact ⟨_, rfl, dep0 _ _, _, rfl, go_no (by decide +kernel) ⟨_, rfl, dep0 _ _, _, rfl, go_no (by decide +kernel) (min_dt ps h0 (fun K k => ⟨_, rfl, k⟩) (max_dt ps h0 (fun K k => ⟨_, rfl, k⟩) ⟨⟨by decide, by decide⟩, h⟩))⟩⟩
/-- the first of the nearest spots -/
def gf (f : Nat → Int) (t : Int) : Nat → Option Nat × Int
  | 0 => (none, t)
  | k + 1 => if f k < (gf f t k).2 then (some k, f k) else gf f t k
def oD : Option Nat → D
  | none => .none
  | some k => .int (k : Nat)
def far (r : Rule) (ps gs : List Int) (v : Nat) (x : Int) (s : Nat) : Int := ((chF r (put ps v s) gs - x).natAbs : Int)
def gainF (r : Rule) (ps gs : List Int) (v : Nat) (x : Int) : Option Nat := (gf (far r ps gs v x) ((chF r ps gs - x).natAbs : Int) 1001).1
theorem atI_peak {ps : List Int} {v : Nat} {x : Int} (h : ps[v]? = some x) : atI (ps.map PyData.int) (v : Int) = some (.int x) := atI_n (by rw [List.getElem?_map, h]; rfl)
theorem lt_of_get {ps : List Int} {v : Nat} {x : Int} (h : ps[v]? = some x) : v < ps.length := (List.getElem?_eq_some_iff.mp h).1
theorem gain_ok (r : Rule) (ps gs : List Int) (v : Nat) (x : Int) {P : D → Prop} (hv : ps[v]? = some x) (hl : ps.length + gs.length ≤ 1000) (h : P (oD (gainF r ps gs v x))) : wp_gain [.d (.str r.s), .d (tD ps), .d (tD gs), .d (.int v)] P := by
  have hvl := lt_of_get hv
  refine ⟨_, rfl, _, rfl, _, rfl, chosen_ok r ps gs (by omega) hl ⟨_, rfl, _, rfl, _, atI_peak hv, ⟨by decide, by decide⟩, ?_⟩⟩
  refine wFor_rng (fun i ρ => ∃ y z, ρ = [some (.d (.str r.s)), some (.d (tD ps)), some (.d (tD gs)), some (.d (.int v)), some (.d (.int (gf (far r ps gs v x) ((chF r ps gs - x).natAbs : Int) i).2)), some (.d (oD (gf (far r ps gs v x) ((chF r ps gs - x).natAbs : Int) i).1)), y, z]) 1001 _ ⟨none, none, rfl⟩ ?_ ?_
  · rintro i ρ hi ⟨y, z, rfl⟩ K hK
    refine ⟨_, rfl, _, rfl, _, rfl, _, rfl, told_ok ps v i hvl (by omega) ⟨_, rfl, chosen_ok r (put ps v i) gs (by rw [put_len hvl]; omega) (by rw [put_len hvl]; omega) ⟨_, rfl, _, rfl, _, atI_peak hv, ?_⟩⟩⟩
    refine ⟨_, rfl, _, rfl, _, rfl, ?_⟩
    have e : (((chF r (put ps v i) gs - x).natAbs : Nat) : Int) = far r ps gs v x i := rfl
    refine go_if (fun h1 => ?_) (fun h1 => ?_)
    · have h1 : far r ps gs v x i < (gf (far r ps gs v x) ((chF r ps gs - x).natAbs : Int) i).2 := of_decide_eq_true h1
      refine ⟨_, rfl, _, rfl, hK _ ⟨some (.d (.int (i : Nat))), some (.d (.int (far r ps gs v x i))), ?_⟩⟩
      rw [gf, if_pos h1]; rfl
    · have h1 : ¬ far r ps gs v x i < (gf (far r ps gs v x) ((chF r ps gs - x).natAbs : Int) i).2 := of_decide_eq_false h1
      refine hK _ ⟨some (.d (.int (i : Nat))), some (.d (.int (far r ps gs v x i))), ?_⟩
      rw [gf, if_neg h1]; rfl
  · rintro ρ ⟨y, z, rfl⟩
    exact ⟨_, rfl, h⟩
theorem law_gain_ok (r : Rule) (ps gs : List Int) (v : Nat) (x : Int) {P : D → Prop} (hv : ps[v]? = some x) (hg : gs.length + 1 = ps.length) (hl : ps.length + gs.length ≤ 1000) (h : P (oD (gainF r ps gs v x))) : wp__law_gain [.d (.str r.s), .d (tD ps), .d (tD gs), .d (.int v)] P := by
  have hvl := lt_of_get hv
  refine ⟨_, rfl, _, rfl, _, rfl, law_chosen_ok r ps gs (by omega) hg hl ⟨_, rfl, _, rfl, _, atI_peak hv, sz2 _ _, ⟨by decide, by decide⟩, ?_⟩⟩
  refine wFor_rng (fun i ρ => ∃ y z, ρ = [some (.d (.str r.s)), some (.d (tD ps)), some (.d (tD gs)), some (.d (.int v)), some (.d (.tuple [.int (gf (far r ps gs v x) ((chF r ps gs - x).natAbs : Int) i).2, oD (gf (far r ps gs v x) ((chF r ps gs - x).natAbs : Int) i).1])), y, z]) 1001 _ ⟨none, none, rfl⟩ ?_ ?_
  · rintro i ρ hi ⟨y, z, rfl⟩ K hK
    refine ⟨_, rfl, _, rfl, _, rfl, _, rfl, _, rfl, show 1 ≤ sizeLine by decide, ?_⟩
    show addD (.tuple (Dw.cutD (ps.map PyData.int) none (some (v : Int)))) (.tuple [PyData.int (i : Nat)]) _
    rw [cut_pre ps (by omega)]
    refine ⟨size_big (by simp; omega), _, rfl, _, rfl, _, rfl, ?_⟩
    simp only [dNo, slD, tD]
    rw [show (v : Int) + 1 = ((v + 1 : Nat) : Int) by omega, cut_post ps (by omega)]
    refine ⟨size_big (by simp; omega), ?_⟩
    rw [show (ps.take v).map PyData.int ++ [PyData.int (i : Nat)] ++ (ps.drop (v + 1)).map PyData.int = (put ps v i).map PyData.int by unfold put; rw [List.map_append, List.map_append]; rfl]
    refine ⟨_, rfl, law_chosen_ok r (put ps v i) gs (by rw [put_len hvl]; omega) (by rw [put_len hvl]; omega) (by rw [put_len hvl]; omega) ⟨_, rfl, _, rfl, _, atI_peak hv, ?_⟩⟩
    refine ⟨_, rfl, _, rfl, _, rfl, _, rfl, ?_⟩
    refine go_if (fun h1 => ?_) (fun h1 => ?_)
    · have h1 : far r ps gs v x i < (gf (far r ps gs v x) ((chF r ps gs - x).natAbs : Int) i).2 := of_decide_eq_true h1
      refine ⟨_, rfl, _, rfl, sz2 _ _, hK _ ⟨some (.d (.int (i : Nat))), some (.d (.int (far r ps gs v x i))), ?_⟩⟩
      rw [gf, if_pos h1]; rfl
    · have h1 : ¬ far r ps gs v x i < (gf (far r ps gs v x) ((chF r ps gs - x).natAbs : Int) i).2 := of_decide_eq_false h1
      refine hK _ ⟨some (.d (.int (i : Nat))), some (.d (.int (far r ps gs v x i))), ?_⟩
      rw [gf, if_neg h1]; rfl
  · rintro ρ ⟨y, z, rfl⟩
    exact ⟨_, rfl, _, rfl, h⟩
/-- the first voter who gains -/
def firstG (F : Nat → Option Nat) (n : Nat) : D := match ((List.range n).filter fun i => (F i).isSome).head? with
  | none => .none
  | some i => .tuple [.int (i : Nat), oD (F i)]
theorem gainer_ok (r : Rule) (ps gs : List Int) (F : Nat → Option Nat) {P : D → Prop} (hF : ∀ v x, ps[v]? = some x → gainF r ps gs v x = F v) (hl : ps.length + gs.length ≤ 1000) (h : P (firstG F ps.length)) : wp_gainer [.d (.str r.s), .d (tD ps), .d (tD gs)] P := by
  refine ⟨_, rfl, ⟨by show -(2 ^ 62) ≤ (((ps.map PyData.int).length : Nat) : Int); omega, by show (((ps.map PyData.int).length : Nat) : Int) < 2 ^ 62; rw [tD_len]; omega⟩, ?_⟩
  rw [tD_len]
  refine wFor_rng (fun i ρ => (∀ j, j < i → F j = none) ∧ ∃ y z, ρ = [some (.d (.str r.s)), some (.d (tD ps)), some (.d (tD gs)), y, z]) ps.length _ ⟨fun j hj => absurd hj (Nat.not_lt_zero _), none, none, rfl⟩ ?_ ?_
  · rintro i ρ hi ⟨hb, y, z, rfl⟩ K hK
    have hx : ps[i]? = some ps[i] := List.getElem?_eq_getElem hi
    refine ⟨_, rfl, _, rfl, _, rfl, _, rfl, gain_ok r ps gs i ps[i] hx hl ?_⟩
    rw [hF i _ hx]
    cases hfi : F i with
    | none =>
      refine ⟨_, rfl, _, rfl, go_no rfl (hK _ ⟨fun j hj => ?_, some (.d (.int (i : Nat))), some (.d .none), rfl⟩)⟩
      rcases Nat.lt_or_ge j i with c | c
      · exact hb j c
      · have : j = i := by omega
        subst this; exact hfi
    | some s =>
      refine ⟨_, rfl, _, rfl, go_yes rfl ⟨_, rfl, _, rfl, sz2 _ _, ?_⟩⟩
      have e : firstG F ps.length = .tuple [.int (i : Nat), .int (s : Nat)] := by
        unfold firstG
        obtain ⟨m, hm⟩ : ∃ m, ps.length = i + (m + 1) := ⟨ps.length - i - 1, by omega⟩
        rw [hm, List.range_add, List.filter_append, List.filter_eq_nil_iff.mpr (fun k hk => by rw [hb k (List.mem_range.mp hk)]; decide), List.nil_append, List.range_succ_eq_map, List.map_cons, List.filter_cons_of_pos (by rw [Nat.add_zero, hfi]; rfl), List.head?_cons]
        show PyData.tuple [.int ((i + 0 : Nat) : Int), oD (F (i + 0))] = _
        rw [Nat.add_zero, hfi]; rfl
      rw [e] at h
      exact h
  · rintro ρ ⟨hb, y, z, rfl⟩
    have e : firstG F ps.length = .none := by
      unfold firstG
      rw [List.filter_eq_nil_iff.mpr (fun k hk => by rw [hb k (List.mem_range.mp hk)]; decide)]
      rfl
    rw [e] at h
    exact h
theorem reach_ok (ps gs : List Int) (v : Nat) {P : D → Prop} (hv : v < ps.length) (hl : ps.length + gs.length ≤ 1000) (h : P (.tuple [.int (midF (put ps v 0 ++ gs) (ps.length - 1)), .int (midF (put ps v 1000 ++ gs) (ps.length - 1))])) : wp_reach [.d (tD ps), .d (tD gs), .d (.int v)] P := by
  refine ⟨_, rfl, _, rfl, told_ok ps v 0 hv (by omega) ⟨_, rfl, middle_ok _ gs (by rw [put_len hv]; omega) (by rw [put_len hv]; omega) ?_⟩⟩
  rw [put_len hv]
  refine ⟨_, rfl, _, rfl, _, rfl, told_ok ps v 1000 hv (by omega) ⟨_, rfl, middle_ok _ gs (by rw [put_len hv]; omega) (by rw [put_len hv]; omega) ?_⟩⟩
  rw [put_len hv]
  exact ⟨sz2 _ _, h⟩
theorem pick_ok (ds : List D) {P : D → Prop} (h0 : 0 < ds.length) (h1 : ds.length < 1000) (h : ∀ d ∈ ds, P d) : wp__law_pick [.st, .d (.list ds)] P := by
  refine ⟨_, rfl, rfl, _, rfl, _, rfl, ?_, fun _ ⟨r, e, r0, r1⟩ => ?_⟩
  · show (ds.length : Int) < 2 ^ 62
    omega
  · subst e
    have hr : r.toNat < ds.length := by omega
    refine ⟨ds[r.toNat], ?_, h _ (List.getElem_mem hr)⟩
    have : r = (r.toNat : Int) := by omega
    exact (congrArg (atI ds) this).trans (atI_n (List.getElem?_eq_getElem hr))
theorem tk (m : Int) (k : Nat) {P : D → Prop} (e : m = (k : Int)) (hk : k < 2 ^ 62) (h : ∀ r : Nat, r < max k 1 → P (.int r)) : wp__law_take [.st, .d (.int m)] P := take_ok m k e hk h
/-- a row of draws -/
theorem wComp_draws {g : DG} {te : DE} {ρ : Dw.Env} (m : Nat) : ∀ (ds : List D) (acc : List Int) {P : List D → Prop},
    (∀ d ∈ ds, ∀ (K : D → Prop), (∀ r : Nat, r < max m 1 → K (.int r)) → g d ρ fun ρ2 => te ρ2 K) → acc.length + ds.length ≤ 1000 →
    (∀ out : List Int, out.length = acc.length + ds.length → (∀ y ∈ out, y ∈ acc ∨ (0 ≤ y ∧ y < max m 1)) → P (out.map PyData.int)) → wComp g dYes te ρ ds (acc.map PyData.int) P
  | [], acc, P, _, _, h => h acc rfl fun y hy => .inl hy
  | d :: ds, acc, P, h, hl, hP => by
    refine h d (List.mem_cons_self ..) _ fun r hr => ⟨?_, ?_⟩
    · rw [List.length_map]
      rw [List.length_cons] at hl
      exact Nat.lt_of_lt_of_le (Nat.lt_of_le_of_lt (show acc.length ≤ 1000 by omega) (by decide)) (Nat.le_refl _)
    · rw [show acc.map PyData.int ++ [PyData.int (r : Nat)] = (acc ++ [(r : Int)]).map PyData.int by rw [List.map_append]; rfl]
      refine wComp_draws m ds _ (fun d hd => h d (List.mem_cons_of_mem _ hd)) (by simp at hl ⊢; omega) fun out hout hy => hP out (by simp at hout ⊢; omega) fun y yo => ?_
      rcases hy y yo with z | z
      · rcases List.mem_append.mp z with z | z
        · exact .inl z
        · rw [List.mem_singleton] at z
          exact .inr (by omega)
      · exact .inr z
end T68

namespace T68
open PySem PySem.Spec PyProof.Rows L2 Dw
open PySem.W (Datum Tup)

def rgt (row : List Int) (c : Nat) : List Int := if c < row.length then row.drop c else row.drop (row.length - 1)
def pA (row : List Int) (c : Nat) : Int := midF (row.take c) (((row.take c).length - 1) / 2)
def pB (row : List Int) (c : Nat) : Int := midF (rgt row c) (((rgt row c).length - 1) / 2)
def cost (row : List Int) (c : Nat) : Int := dist2 (pA row c) (pB row c) row
def tupE (row : List Int) (c : Nat) : Int × (Int × Int) := (cost row c, (pA row c, pB row c))
def tup (row : List Int) (c : Nat) : D := .tuple [.int (cost row c), .tuple [.int (pA row c), .int (pB row c)]]
theorem tup_lt (row : List Int) (c d : Nat) : PySem.W.dataLt (tup row c) (tup row d) = PySem.W.DatumOrd.lt (tupE row c) (tupE row d) := PySem.W.DatumOrd.lt_eq (tupE row c) (tupE row d)
theorem tup_cmp (row : List Int) (c d : Nat) : cmpOk (tup row c) (tup row d) := ⟨PySem.W.DatumOrd.alike (tupE row c) (tupE row d), PySem.W.DatumOrd.notNone (tupE row c), Nat.le_trans (Nat.min_le_left _ _) (Nat.le_trans (Datum.depth_le (tupE row c)) (by decide))⟩
theorem tup_yes {row : List Int} {c d : Nat} (h : PySem.W.dataLt (tup row c) (tup row d) = true) : cost row c ≤ cost row d := by
  rw [tup_lt] at h
  have h : (if cost row c = cost row d then _ else decide (cost row c < cost row d)) = true := h
  by_cases e : cost row c = cost row d
  · omega
  · rw [if_neg e] at h
    have := of_decide_eq_true h
    omega
theorem tup_no {row : List Int} {c d : Nat} (h : PySem.W.dataLt (tup row c) (tup row d) = false) : cost row d ≤ cost row c := by
  rw [tup_lt] at h
  have h : (if cost row c = cost row d then _ else decide (cost row c < cost row d)) = false := h
  by_cases e : cost row c = cost row d
  · omega
  · rw [if_neg e] at h
    have := of_decide_eq_false h
    omega
theorem rgt_pos {row : List Int} (h0 : 0 < row.length) (c : Nat) : 0 < (rgt row c).length := by
  unfold rgt; split <;> (rw [List.length_drop]; omega)
theorem cut_last (l : List Int) (h0 : 0 < l.length) : Dw.cutD (l.map PyData.int) (some (-1)) none = (l.drop (l.length - 1)).map PyData.int := by
  unfold Dw.cutD
  have e : HT.sIx (l.map PyData.int).length 0 (some (-1)) = l.length - 1 := by
    show (if (-1 : Int) < 0 then ((-1 : Int) + ((l.map PyData.int).length : Nat)).toNat else min (-1 : Int).toNat (l.map PyData.int).length) = _
    rw [if_pos (by decide), tD_len]; omega
  rw [HT.sIx_none, e, tD_len, List.map_drop]
  exact List.take_of_length_le (by simp)
theorem two_spots_ok (ps : List Int) {P : D → Prop} (h0 : 0 < ps.length) (hl : ps.length ≤ 1000)
    (h : ∀ c, 1 ≤ c → c ≤ ps.length → (∀ d, 1 ≤ d → d ≤ ps.length → cost (srt ps) c ≤ cost (srt ps) d) → P (.tuple [.int (pA (srt ps) c), .int (pB (srt ps) c)])) : wp_two_spots [.d (tD ps)] P := by
  obtain ⟨row, hrow⟩ : ∃ row, srt ps = row := ⟨_, rfl⟩
  have hrl : row.length = ps.length := by rw [← hrow, srt_len]
  refine sorted_dt ps (fun K k => ⟨_, rfl, k⟩) ?_
  rw [hrow] at h ⊢
  refine ⟨_, rfl, ⟨by decide, by decide, ?_, ?_⟩, ?_⟩
  · show -(2 ^ 62) ≤ (((row.map PyData.int).length : Nat) : Int) + 1
    omega
  · show (((row.map PyData.int).length : Nat) : Int) + 1 < 2 ^ 62
    rw [tD_len, hrl]; omega
  · have er : rngD 1 ((((row.map PyData.int).length : Nat) : Int) + 1) = (List.range ps.length).map fun i => .int ((i + 1 : Nat) : Int) := by
      unfold rngD
      rw [tD_len, hrl, show ((ps.length : Int) + 1 - 1).toNat = ps.length by omega]
      exact List.map_congr_left fun i _ => by rw [show (1 : Int) + (i : Nat) = ((i + 1 : Nat) : Int) by omega]
    show wFor _ _ _ (rngD 1 ((((row.map PyData.int).length : Nat) : Int) + 1)) _
    rw [er]
    refine wFor_inv (fun i ρ => ∃ (b : D) (x3 x4 x5 x6 x7 x8 : Option Ent), ρ = [some (.d (tD ps)), some (.d (.list (row.map PyData.int))), some (.d b), x3, x4, x5, x6, x7, x8] ∧
      ((i = 0 ∧ b = .none) ∨ ∃ c, 1 ≤ c ∧ c ≤ i ∧ b = tup row c ∧ ∀ d, 1 ≤ d → d ≤ i → cost row c ≤ cost row d)) _ 0 _ ⟨.none, none, none, none, none, none, none, rfl, .inl ⟨rfl, rfl⟩⟩ ?_ ?_
    · rintro i x ρ hj ⟨b, x3, x4, x5, x6, x7, x8, rfl, hb⟩ K hK
      rw [Nat.zero_add] at hb hK
      have hi : i < ps.length := by
        rcases Nat.lt_or_ge i ps.length with c | c
        · exact c
        · rw [List.getElem?_eq_none (by simp; omega)] at hj; cases hj
      rw [List.getElem?_map, List.getElem?_range hi] at hj
      cases hj
      show dSeq _ _ _ _
      refine st_par (fun x y => x = .list ((row.take (i + 1)).map PyData.int) ∧ y = .list ((rgt row (i + 1)).map PyData.int)) (fun K hK => ?_) ?_
      · refine ⟨_, rfl, _, rfl, _, rfl, ?_⟩
        simp only [slD]
        rw [cut_pre row (by omega)]
        refine ⟨_, rfl, _, rfl, _, rfl, ?_⟩
        have e : decide (((i + 1 : Nat) : Int) < ((row.map PyData.int).length : Nat)) = decide (i + 1 < row.length) := by rw [tD_len]; exact decide_eq_decide.mpr (by omega)
        refine go_if (fun h1 => ?_) (fun h1 => ?_)
        · have h1 : i + 1 < row.length := of_decide_eq_true (e.symm.trans h1)
          refine ⟨_, rfl, _, rfl, _, rfl, ?_⟩
          show K [_, .list (Dw.cutD (row.map PyData.int) (some ((i + 1 : Nat) : Int)) none)]
          rw [cut_post row (by omega)]
          refine hK _ _ ⟨rfl, ?_⟩
          unfold rgt; rw [if_pos h1]
        · have h1 : ¬ i + 1 < row.length := of_decide_eq_false (e.symm.trans h1)
          refine ⟨_, rfl, _, rfl, ?_⟩
          show K [_, .list (Dw.cutD (row.map PyData.int) (some (-1)) none)]
          rw [cut_last row (by omega)]
          refine hK _ _ ⟨rfl, ?_⟩
          unfold rgt; rw [if_neg h1]
      rintro _ _ ⟨rfl, rfl⟩
      simp only [List.set_cons_succ, List.set_cons_zero]
      refine st_set (fun x => x = .tuple [.int (pA row (i + 1)), .int (pB row (i + 1))]) (fun K hK => ?_) ?_
      · refine ⟨_, rfl, unbeaten_ok (row.take (i + 1)) (by simp; omega) ⟨_, rfl, _, rfl, unbeaten_ok (rgt row (i + 1)) (rgt_pos (by omega) _) ⟨_, rfl, sz2 _ _, hK _ rfl⟩⟩⟩
      rintro _ rfl
      simp only [List.set_cons_succ, List.set_cons_zero]
      refine st_set (fun x => x = tup row (i + 1)) (fun K hK => ?_) ?_
      · refine ⟨_, rfl, ?_⟩
        refine wComp_tm PyData.int (fun k => .int (min ((k - pA row (i + 1)).natAbs : Int) ((k - pB row (i + 1)).natAbs : Int))) row (fun a _ K k => ⟨_, rfl, _, rfl, _, rfl, _, rfl, _, rfl, _, rfl, k⟩) (size_big (by omega)) ?_
        refine ⟨_, row.map fun k => min ((k - pA row (i + 1)).natAbs : Int) ((k - pB row (i + 1)).natAbs : Int), rfl, by rw [List.map_map]; rfl, _, rfl, sz2 _ _, hK _ rfl⟩
      rintro _ rfl
      simp only [List.set_cons_succ, List.set_cons_zero]
      rcases hb with ⟨rfl, rfl⟩ | ⟨c, c1, c2, rfl, hc⟩
      · refine ⟨_, rfl, _, rfl, go_yes rfl ⟨_, rfl, hK _ ⟨_, _, _, _, _, _, _, rfl, .inr ⟨1, by omega, by omega, rfl, fun d d1 d2 => ?_⟩⟩⟩⟩
        have : d = 1 := by omega
        subst this; exact Int.le_refl _
      · refine ⟨_, rfl, _, rfl, go_no rfl ⟨_, rfl, _, rfl, tup_cmp row (i + 1) c, _, rfl, go_if (fun h1 => ?_) (fun h1 => ?_)⟩⟩
        · refine ⟨_, rfl, hK _ ⟨_, _, _, _, _, _, _, rfl, .inr ⟨i + 1, by omega, by omega, rfl, fun d d1 d2 => ?_⟩⟩⟩
          have := tup_yes h1
          rcases Nat.lt_or_ge i d with z | z
          · have : d = i + 1 := by omega
            subst this; exact Int.le_refl _
          · have := hc d d1 z
            omega
        · refine hK _ ⟨_, _, _, _, _, _, _, rfl, .inr ⟨c, c1, by omega, rfl, fun d d1 d2 => ?_⟩⟩
          have := tup_no h1
          rcases Nat.lt_or_ge i d with z | z
          · have : d = i + 1 := by omega
            subst this; exact this
          · exact hc d d1 z
    · rintro ρ ⟨b, x3, x4, x5, x6, x7, x8, rfl, hb⟩
      rw [Nat.zero_add, List.length_map, List.length_range] at hb
      rcases hb with ⟨z, _⟩ | ⟨c, c1, c2, rfl, hc⟩
      · omega
      · exact ⟨_, rfl, _, rfl, h c c1 c2 hc⟩
/-- the best cut is as good as any two spots -/
theorem cost_best {row : List Int} (hs : row.Pairwise (· ≤ ·)) (h0 : 0 < row.length) {c : Nat} (hc : ∀ d, 1 ≤ d → d ≤ row.length → cost row c ≤ cost row d) (a b : Int) : cost row c ≤ dist2 a b row := by
  have med : ∀ (l : List Int), 0 < l.length → ∀ o, dist (midF l ((l.length - 1) / 2)) l ≤ dist o l := fun l hl o =>
    dist_min (low := midF l ((l.length - 1) / 2)) (high := midF l (l.length / 2)) (midF_get (by omega)).2.1 (midF_get (by omega)).2.1 hl o
  have key : ∀ a b : Int, a ≤ b → cost row c ≤ dist2 a b row := fun a b hab => by
    obtain ⟨k, hk, e⟩ := part_row hab hs
    rw [e]
    have all : cost row c ≤ dist (midF row ((row.length - 1) / 2)) row := by
      refine Int.le_trans (hc row.length (by omega) (Nat.le_refl _)) ?_
      have : pA row row.length = midF row ((row.length - 1) / 2) := by unfold pA; rw [List.take_length]
      rw [← this]
      exact (dist2_le _ _ row).1
    by_cases k0 : k = 0
    · subst k0
      rw [List.take_zero, List.drop_zero, show dist a [] = 0 from rfl, Int.zero_add]
      exact Int.le_trans all (med row h0 b)
    · by_cases kn : k = row.length
      · subst kn
        rw [List.take_length, List.drop_length, show dist b [] = 0 from rfl, Int.add_zero]
        exact Int.le_trans all (med row h0 a)
      · refine Int.le_trans (hc k (by omega) (by omega)) ?_
        have e1 : rgt row k = row.drop k := by unfold rgt; rw [if_pos (by omega)]
        have e2 : cost row k = dist2 (pA row k) (pB row k) (row.take k) + dist2 (pA row k) (pB row k) (row.drop k) := by
          unfold cost
          rw [← dist2_app, List.take_append_drop]
        have e3 := (dist2_le (pA row k) (pB row k) (row.take k)).1
        have e4 := (dist2_le (pA row k) (pB row k) (row.drop k)).2
        have e5 := med (row.take k) (by rw [List.length_take]; omega) a
        have e6 := med (row.drop k) (by rw [List.length_drop]; omega) b
        have e7 : pB row k = midF (row.drop k) (((row.drop k).length - 1) / 2) := by unfold pB; rw [e1]
        rw [← e7] at e6
        have e5 : dist (pA row k) (row.take k) ≤ dist a (row.take k) := e5
        omega
  rcases Int.le_total a b with h | h
  · exact key a b h
  · rw [dist2_comm]; exact key b a h
/-- the spots stand in order, among the voters -/
theorem pA_le_pB {row : List Int} (hs : row.Pairwise (· ≤ ·)) {c : Nat} (c1 : 1 ≤ c) (c2 : c ≤ row.length) : pA row c ≤ pB row c ∧ pA row c ∈ row ∧ pB row c ∈ row := by
  have h1 : pA row c ∈ row.take c := (midF_get (l := row.take c) (by rw [List.length_take]; omega)).2.2
  have h2 : pB row c ∈ rgt row c := (midF_get (by have := rgt_pos (row := row) (by omega) c; omega)).2.2
  have m1 := List.mem_of_mem_take h1
  refine ⟨?_, m1, ?_⟩
  · unfold rgt at h2
    split at h2
    · rename_i hc
      rw [← List.take_append_drop c row, List.pairwise_append] at hs
      exact hs.2.2 _ h1 _ h2
    · obtain ⟨j, hj, e⟩ := List.mem_iff_getElem.mp h2
      rw [List.length_drop] at hj
      rw [List.getElem_drop] at e
      obtain ⟨i, hi, e2⟩ := List.mem_iff_getElem.mp m1
      rw [← e, ← e2]
      rcases Nat.lt_or_ge i (row.length - 1 + j) with z | z
      · exact List.pairwise_iff_getElem.mp hs _ _ _ _ z
      · have : i = row.length - 1 + j := by omega
        subst this; exact Int.le_refl _
  · unfold rgt at h2
    split at h2 <;> exact List.mem_of_mem_drop h2
end T68

namespace T68
open PySem PySem.Spec PyProof.Rows L2 Dw
open PySem.W (Datum Tup)

def rest (ps gs : List Int) (v : Nat) : List Int := ps.take v ++ ps.drop (v + 1) ++ gs
theorem rest_len {ps : List Int} {v : Nat} (hv : v < ps.length) (gs : List Int) : (rest ps gs v).length + 1 = ps.length + gs.length := by
  unfold rest; simp; omega
theorem put_rest (ps gs : List Int) (v : Nat) (s : Int) : (put ps v s ++ gs).Perm (rest ps gs v ++ [s]) := by
  have h := (put_perm (ps := ps) (i := v) s).append_right gs
  refine h.trans ?_
  unfold rest
  rw [List.append_assoc, List.append_assoc (ps.take v ++ ps.drop (v + 1)) gs]
  exact List.Perm.append_left _ List.perm_append_comm
theorem clamp_ex {ps gs : List Int} {v : Nat} {x : Int} (hv : ps[v]? = some x) (hg : gs.length + 1 = ps.length) (hp : ∀ y ∈ ps, 0 ≤ y ∧ y ≤ 1000) (hq : ∀ y ∈ gs, 0 ≤ y ∧ y ≤ 1000) :
    ∃ lo hi : Int, 0 ≤ lo ∧ lo ≤ hi ∧ hi ≤ 1000 ∧ (∀ s, 0 ≤ s → s ≤ 1000 → midF (put ps v s ++ gs) (ps.length - 1) = max lo (min hi s)) ∧ midF (ps ++ gs) (ps.length - 1) = max lo (min hi x) ∧
      ∀ s, 0 ≤ s → s ≤ 1000 → midF (rest ps gs v ++ [s]) (((rest ps gs v).length + 1) / 2) = max lo (min hi s) := by
  have hvl := lt_of_get hv
  have hx : ps[v] = x := by rw [List.getElem?_eq_getElem hvl] at hv; injection hv
  have rl := rest_len hvl gs
  have hxb := hp x (by rw [← hx]; exact List.getElem_mem hvl)
  have rb : ∀ y ∈ rest ps gs v, 0 ≤ y ∧ y ≤ 1000 := fun y hy => by
    unfold rest at hy
    rcases List.mem_append.mp hy with h | h
    · rcases List.mem_append.mp h with h | h
      · exact hp y (List.mem_of_mem_take h)
      · exact hp y (List.mem_of_mem_drop h)
    · exact hq y h
  obtain ⟨n, hn⟩ : ∃ n, ps.length = n := ⟨_, rfl⟩
  have half : ((rest ps gs v).length + 1) / 2 = n - 1 := by omega
  -- what stands in the middle
  have key : ∃ lo hi : Int, 0 ≤ lo ∧ lo ≤ hi ∧ hi ≤ 1000 ∧ ∀ s, 0 ≤ s → s ≤ 1000 → At (rest ps gs v ++ [s]) (n - 1) (max lo (min hi s)) := by
    by_cases h1 : n = 1
    · refine ⟨0, 1000, by omega, by omega, by omega, fun s s0 s1 => ?_⟩
      have e : rest ps gs v = [] := List.length_eq_zero_iff.mp (by omega)
      rw [e, h1, show max 0 (min 1000 s) = s by omega, List.nil_append]
      refine ⟨?_, ?_⟩
      · rw [lt_cons, if_neg (by omega)]; simp [lt]
      · rw [le_cons, if_pos (by omega)]; simp [le]
    · obtain ⟨_, a2, a3⟩ := midF_get (l := rest ps gs v) (k := n - 2) (by omega)
      obtain ⟨_, b2, b3⟩ := midF_get (l := rest ps gs v) (k := n - 1) (by omega)
      have lh : midF (rest ps gs v) (n - 2) ≤ midF (rest ps gs v) (n - 1) := by
        rcases ilt (midF (rest ps gs v) (n - 1)) (midF (rest ps gs v) (n - 2)) with c | c
        · have := le_lt c (rest ps gs v); have := a2.1; have := b2.2; omega
        · exact c
      exact ⟨_, _, (rb _ a3).1, lh, (rb _ b3).2, fun s _ _ => mid_clamp (by omega) (by omega) a2 b2 s⟩
  obtain ⟨lo, hi, l0, lh, h1, hk⟩ := key
  have pl : ∀ s, (put ps v s ++ gs).length = ps.length + gs.length := fun s => by rw [List.length_append, put_len hvl]
  have put_mid : ∀ s, 0 ≤ s → s ≤ 1000 → midF (put ps v s ++ gs) (n - 1) = max lo (min hi s) := fun s s0 s1 =>
    midF_at (by rw [pl]; omega) ((hk s s0 s1).perm (put_rest ps gs v s).symm)
  rw [hn]
  refine ⟨lo, hi, l0, lh, h1, put_mid, ?_, fun s s0 s1 => ?_⟩
  · have := put_mid x hxb.1 hxb.2
    rw [← hx, put_self hvl] at this
    rw [this, hx]
  · rw [half]
    exact midF_at (by rw [List.length_append]; simp; omega) (hk s s0 s1)
theorem gf_none {f : Nat → Int} {t : Int} : ∀ n, (∀ k, k < n → t ≤ f k) → gf f t n = (none, t)
  | 0, _ => rfl
  | n + 1, h => by
    have ih := gf_none n fun k hk => h k (by omega)
    have := h n (by omega)
    rw [gf, ih, if_neg (by show ¬ f n < t; omega)]
theorem gf_some {f : Nat → Int} {t : Int} : ∀ n, (gf f t n).2 ≤ t ∧ ∀ s, (gf f t n).1 = some s → s < n ∧ f s < t
  | 0 => ⟨Int.le_refl _, fun s h => by cases h⟩
  | n + 1 => by
    obtain ⟨h1, h2⟩ := gf_some (f := f) (t := t) n
    rw [gf]
    split
    · rename_i c
      exact ⟨by show f n ≤ t; omega, fun s h => by have h : some n = some s := h; cases h; exact ⟨by omega, by omega⟩⟩
    · exact ⟨h1, fun s h => ⟨by have := (h2 s h).1; omega, (h2 s h).2⟩⟩
theorem no_gain {ps gs : List Int} {v : Nat} {x : Int} (hv : ps[v]? = some x) (hg : gs.length + 1 = ps.length) (hp : ∀ y ∈ ps, 0 ≤ y ∧ y ≤ 1000) (hq : ∀ y ∈ gs, 0 ≤ y ∧ y ≤ 1000) : gainF .middle ps gs v x = none := by
  have hvl := lt_of_get hv
  obtain ⟨lo, hi, l0, lh, h1, hk, he, _⟩ := clamp_ex hv hg hp hq
  unfold gainF
  rw [gf_none 1001 fun k hk2 => ?_]
  show ((midF (ps ++ gs) (ps.length - 1) - x).natAbs : Int) ≤ ((midF (put ps v k ++ gs) ((put ps v k).length - 1) - x).natAbs : Int)
  rw [put_len hvl, hk k (by omega) (by omega), he]
  omega
/-- a strictly rising row by its members -/
theorem row_of {ms : List Int} (hs : ms.Pairwise (· < ·)) {lo hi : Int} (hlh : lo ≤ hi + 1) (hm : ∀ k, k ∈ ms ↔ lo ≤ k ∧ k ≤ hi) : ms = (List.range (hi + 1 - lo).toNat).map fun i => lo + (i : Nat) := by
  refine List.Perm.eq_of_pairwise (le := fun a b : Int => a < b) (fun a b _ _ h1 h2 => by omega) hs ?_ ?_
  · rw [List.pairwise_map]
    exact List.pairwise_lt_range.imp fun h => by omega
  · have nd : ∀ {l : List Int}, l.Pairwise (· < ·) → l.Nodup := fun h => h.imp fun h => by omega
    refine (List.perm_ext_iff_of_nodup (nd hs) (nd ?_)).mpr fun k => ?_
    · rw [List.pairwise_map]
      exact List.pairwise_lt_range.imp fun h => by omega
    · rw [hm]
      constructor
      · intro ⟨a, b⟩
        exact List.mem_map.mpr ⟨(k - lo).toNat, List.mem_range.mpr (by omega), by omega⟩
      · intro h
        obtain ⟨i, hi, e⟩ := List.mem_map.mp h
        have := List.mem_range.mp hi
        omega
theorem rng_ints (a b : Int) : rngD a b = ((List.range (b - a).toNat).map fun i => a + (i : Nat)).map PyData.int := by
  unfold rngD; rw [List.map_map]; rfl
theorem filter_rng {a b R : Nat} (h : b ≤ R) : (List.range R).filter (fun o => decide (a ≤ o) && decide (o < b)) = (List.range (b - a)).map (a + ·) := by
  have nd : ∀ {l : List Nat}, l.Pairwise (· < ·) → l.Nodup := fun h => h.imp fun h => by omega
  have s1 : ((List.range R).filter (fun o => decide (a ≤ o) && decide (o < b))).Pairwise (· < ·) := List.Pairwise.filter _ List.pairwise_lt_range
  have s2 : ((List.range (b - a)).map (a + ·)).Pairwise (· < ·) := by
    rw [List.pairwise_map]
    exact List.pairwise_lt_range.imp fun h => by omega
  refine List.Perm.eq_of_pairwise (le := fun a b : Nat => a < b) (fun a b _ _ h1 h2 => by omega) s1 s2 ((List.perm_ext_iff_of_nodup (nd s1) (nd s2)).mpr fun k => ?_)
  simp only [List.mem_filter, List.mem_range, List.mem_map, Bool.and_eq_true, decide_eq_true_eq]
  constructor
  · rintro ⟨h1, h2, h3⟩
    exact ⟨k - a, by omega, by omega⟩
  · rintro ⟨i, hi, rfl⟩
    exact ⟨by omega, by omega, by omega⟩
theorem mnF_eq {l : List Int} {m : Int} (hm : m ∈ l) (hb : ∀ y ∈ l, m ≤ y) : mnF l = m := by
  have h0 : 0 < l.length := List.length_pos_of_mem hm
  obtain ⟨h1, h2⟩ := mnF_spec h0
  have := h2 m hm
  have := hb _ h1
  omega
end T68

namespace T68
open PySem PySem.Spec PyProof.Rows L2 Dw
open PySem.W (Datum Tup)

theorem ex27 (ρ : Dw.Env) (h : ρ.length = 27) : ∃ a0 a1 a2 a3 a4 a5 a6 a7 a8 a9 a10 a11 a12 a13 a14 a15 a16 a17 a18 a19 a20 a21 a22 a23 a24 a25 a26, ρ = [a0, a1, a2, a3, a4, a5, a6, a7, a8, a9, a10, a11, a12, a13, a14, a15, a16, a17, a18, a19, a20, a21, a22, a23, a24, a25, a26] := by
  match ρ, h with
  | [a0, a1, a2, a3, a4, a5, a6, a7, a8, a9, a10, a11, a12, a13, a14, a15, a16, a17, a18, a19, a20, a21, a22, a23, a24, a25, a26], _ =>
    exact ⟨a0, a1, a2, a3, a4, a5, a6, a7, a8, a9, a10, a11, a12, a13, a14, a15, a16, a17, a18, a19, a20, a21, a22, a23, a24, a25, a26, rfl⟩
theorem okInt (i : Int) : (PyData.int i).depth ≤ 100 ∧ (PyData.int i).plain = true := ⟨Nat.le_trans (Nat.le_of_eq (depth_int _)) (Nat.zero_le _), rfl⟩
theorem okInts (l : List Int) : (PyData.list (l.map PyData.int)).depth ≤ 100 ∧ (PyData.list (l.map PyData.int)).plain = true := ⟨Nat.le_trans (Datum.depth_le l) (by decide), PySem.W.Datum.plain l⟩
theorem okPair (a b : Int) : (PyData.tuple [.int a, .int b]).depth ≤ 100 ∧ (PyData.tuple [.int a, .int b]).plain = true := ⟨Nat.le_trans (Datum.depth_le (a, b)) (by decide), rfl⟩
theorem okO (o : Option Nat) : (oD o).depth ≤ 100 ∧ (oD o).plain = true := by
  cases o
  · exact ⟨Nat.zero_le _, rfl⟩
  · exact okInt _
theorem okFirst (F : Nat → Option Nat) (n : Nat) : (firstG F n).depth ≤ 100 ∧ (firstG F n).plain = true := by
  unfold firstG
  split
  · exact ⟨Nat.zero_le _, rfl⟩
  · rename_i i _
    cases F i
    · exact ⟨Nat.le_trans (show 1 ≤ 1 by decide) (by decide), rfl⟩
    · exact okPair _ _
theorem firstG_cases (F : Nat → Option Nat) (n : Nat) : firstG F n = .none ∨ ∃ i s, i < n ∧ F i = some s ∧ firstG F n = .tuple [.int (i : Nat), .int (s : Nat)] := by
  unfold firstG
  cases h : ((List.range n).filter fun i => (F i).isSome).head? with
  | none => exact .inl rfl
  | some i =>
    have hm := List.mem_of_mem_head? h
    obtain ⟨h1, h2⟩ := List.mem_filter.mp hm
    obtain ⟨s, hs⟩ := Option.isSome_iff_exists.mp h2
    exact .inr ⟨i, s, List.mem_range.mp h1, hs, by show PyData.tuple [.int (i : Nat), oD (F i)] = _; rw [hs]; rfl⟩
theorem dcall_ok {wp : Sd} {f : DB} {ρ : Dw.Env} {K : D → Prop} {es : List Ent} (hf : ∀ K' : List Ent → Prop, K' es → f ρ K') (h : wp es K) : dCall wp f ρ K := hf _ h
theorem pk_all (ps : List Int) (h : ∀ y ∈ ps, 0 ≤ y ∧ y ≤ 1000) : (ps.map PyData.int).all wh = true := by
  rw [List.all_map, List.all_eq_true]
  intro y hy
  have := h y hy
  show (decide (0 ≤ y) && decide (y ≤ 1000)) = true
  rw [decide_eq_true this.1, decide_eq_true this.2]; rfl
def oddP (ps : List Int) : List D := [.none, .list (ps.map PyData.int), .tuple [], .tuple (ps.map PyData.int ++ [.int 1001]), .tuple (ps.map PyData.int ++ [.int (-1)]), .tuple (ps.map PyData.int ++ [.none]), .tuple (ps.map PyData.int ++ [.bool true]), .tuple (List.replicate (16 : Int).toNat [PyData.int 0]).flatten]
theorem odd_peaks (ps : List Int) (hp : ∀ y ∈ ps, 0 ≤ y ∧ y ≤ 1000) (h0 : 0 < ps.length) (hl : ps.length ≤ 9) (x : D) (hx : x ∈ oddP ps) {P : D → Prop} (h : P (.bool false)) : wp_are_peaks [.d x] P := by
  have bad : ∀ d : D, wh d = false → wp_are_peaks [.d (.tuple (ps.map PyData.int ++ [d]))] P := fun d hd => by
    refine are_peaks_ok _ ?_
    rw [List.all_append, pk_all ps hp, Bool.true_and, List.all_cons, hd, Bool.false_and, Bool.and_false]
    exact h
  unfold oddP at hx
  simp only [List.mem_cons, List.not_mem_nil, or_false] at hx
  rcases hx with rfl | rfl | rfl | rfl | rfl | rfl | rfl | rfl
  · exact are_peaks_not _ rfl h
  · exact are_peaks_not _ rfl h
  · exact are_peaks_ok _ h
  · exact bad _ (by decide)
  · exact bad _ (by decide)
  · exact bad _ rfl
  · exact bad _ rfl
  · exact are_peaks_ok _ h
def oddG (n : Nat) (gs : List Int) : List D := [.none, .list (gs.map PyData.int), .tuple (gs.map PyData.int ++ [.int 0]), .tuple ((List.replicate ((n : Int) - 1).toNat [PyData.none]).flatten ++ [.none]), if 1 < n then .tuple (List.replicate ((n : Int) - 1).toNat [PyData.int 1001]).flatten else .int 5]
theorem flat_len (k : Nat) (d : D) : ((List.replicate k [d]).flatten).length = k := by simp
theorem odd_ghosts (ps gs : List Int) (n : Nat) (hn : ps.length = n) (hg : gs.length + 1 = n) (hl : n ≤ 9) (x : D) (hx : x ∈ oddG n gs) {P : D → Prop} (h : P (.bool false)) : wp_are_ghosts [.d (tD ps), .d x] P := by
  unfold oddG at hx
  simp only [List.mem_cons, List.not_mem_nil, or_false] at hx
  rcases hx with rfl | rfl | rfl | rfl | rfl
  · exact are_ghosts_not _ _ rfl h
  · exact are_ghosts_not _ _ rfl h
  · refine are_ghosts_ok _ _ (by simp; omega) ?_
    rw [decide_eq_false (by simp; omega), Bool.false_and]; exact h
  · refine are_ghosts_ok _ _ (by rw [List.length_append, flat_len]; simp; omega) ?_
    rw [decide_eq_false (by rw [List.length_append, flat_len, tD_len]; simp; omega), Bool.false_and]; exact h
  · by_cases c : 1 < n
    · rw [if_pos c]
      refine are_ghosts_ok _ _ (by rw [flat_len]; omega) ?_
      obtain ⟨k, hk⟩ : ∃ k, ((n : Int) - 1).toNat = k + 1 := ⟨n - 2, by omega⟩
      rw [hk, List.replicate_succ, List.flatten_cons, List.all_append]
      rw [show ([PyData.int 1001].all wh) = false by decide, Bool.false_and, Bool.and_false]
      exact h
    · rw [if_neg c]
      exact are_ghosts_not _ _ rfl h
theorem gf_fold (f : Nat → Int) (t : Int) : ∀ n, gf f t n = (List.range n).foldl (fun st k => if f k < st.2 then (some k, f k) else st) (none, t)
  | 0 => rfl
  | n + 1 => by rw [gf, List.range_succ, List.foldl_append, ← gf_fold f t n]; rfl
theorem gain_0 : gainF .mean [0, 10] [0] 0 0 = none := by
  unfold gainF; rw [gf_fold]; decide +kernel
theorem gain_1 : gainF .mean [0, 10] [0] 1 10 = some 20 := by
  unfold gainF; rw [gf_fold]; decide +kernel
set_option maxHeartbeats 400000 in
theorem turn_of {ρ : Dw.Env} (hl : ρ.length = 27) (h1 : ρ[1]? = some (some .st)) : rd_law { nx := fun _ => False, rt := fun d => d = .bool true } ρ := by
  refine ⟨⟨by decide, by decide⟩, ?_⟩
  refine wFor_rng (fun i ρ => ρ.length = 27 ∧ ρ[1]? = some (some .st)) 3 _ ⟨hl, h1⟩ ?_ ?_
  · clear hl h1 ρ
    rintro i ρ hi ⟨hl, h1⟩ K hK
    obtain ⟨a0, a1, a2, a3, a4, a5, a6, a7, a8, a9, a10, a11, a12, a13, a14, a15, a16, a17, a18, a19, a20, a21, a22, a23, a24, a25, a26, rfl⟩ := ex27 ρ hl
    have h1 : a1 = some .st := by injection h1
    subst h1
    show dSeq _ _ _ _
    refine st_asg2 (fun x y => ∃ n most : Nat, x = .int n ∧ y = .int most ∧ 1 ≤ n ∧ n ≤ 9 ∧ 4 ≤ most ∧ most ≤ 1001) (fun K hK => ?_) ?_
    · refine ⟨rfl, tk 9 9 rfl (by decide) fun r hr => ⟨rfl, show 3 ≤ sizeLine by decide, pick_ok _ (show 0 < 3 by decide) (show 3 < 1000 by decide) fun x hx => ?_⟩⟩
      have go : ∀ m : Nat, 4 ≤ m → m ≤ 1001 → x = .int m → [PyData.int (1 + (r : Nat)), x].length ≤ sizeLine ∧ K (.tuple [.int (1 + (r : Nat)), x]) := fun m a b e => ⟨sz2 _ _, hK _ _ ⟨1 + r, m, by rw [Int.natCast_add]; rfl, e, by omega, by omega, a, b⟩⟩
      have hx : x ∈ [PyData.int 4, .int 12, .int 1001] := hx
      simp only [List.mem_cons, List.not_mem_nil, or_false] at hx
      rcases hx with rfl | rfl | rfl
      · exact go 4 (by decide) (by decide) rfl
      · exact go 12 (by decide) (by decide) rfl
      · exact go 1001 (by decide) (by decide) rfl
    rintro _ _ ⟨n, most, rfl, rfl, n1, n2, m1, m2⟩
    simp only [List.set_cons_succ, List.set_cons_zero]
    have draws : ∀ (k : Nat) (K : D → Prop), k ≤ 9 → (∀ l : List Int, l.length = k → (∀ y ∈ l, 0 ≤ y ∧ y < most) → K (tD l)) → ∀ out : List Int, out.length = ([] : List Int).length + (rngD 0 (k : Int)).length → (∀ y ∈ out, y ∈ ([] : List Int) ∨ (0 ≤ y ∧ y < ((max most 1 : Nat) : Int))) → K (tD out) := fun k K _ hK out ho hy => by
      refine hK out ?_ fun y yo => ?_
      · rw [ho, rng_len]; simp
      · rcases hy y yo with z | z
        · cases z
        · omega
    refine st_set (fun x => ∃ ps : List Int, x = tD ps ∧ ps.length = n ∧ ∀ y ∈ ps, 0 ≤ y ∧ y < most) (fun K hK => ?_) ?_
    · refine ⟨_, rfl, ⟨by show -(2 ^ 62) ≤ (n : Int); omega, by show (n : Int) < 2 ^ 62; omega⟩, ?_⟩
      refine wComp_draws most _ [] (fun d _ K2 k2 => ⟨rfl, _, rfl, tk _ most rfl (by omega) k2⟩) (by rw [rng_len]; simp; omega) fun out ho hy => ?_
      exact draws n K (by omega) (fun l a b => hK _ ⟨l, rfl, a, b⟩) out ho hy
    rintro _ ⟨ps, rfl, hn, hps⟩
    simp only [List.set_cons_succ, List.set_cons_zero]
    refine st_set (fun x => ∃ gs : List Int, x = tD gs ∧ gs.length + 1 = n ∧ ∀ y ∈ gs, 0 ≤ y ∧ y < most) (fun K hK => ?_) ?_
    · refine ⟨_, rfl, ⟨by show -(2 ^ 62) ≤ (n : Int) - 1; omega, by show (n : Int) - 1 < 2 ^ 62; omega⟩, ?_⟩
      show wComp _ _ _ _ (rngD 0 ((n : Int) - 1)) (([] : List Int).map PyData.int) _
      rw [show (n : Int) - 1 = ((n - 1 : Nat) : Int) by omega]
      refine wComp_draws most _ [] (fun d _ K2 k2 => ⟨rfl, _, rfl, tk _ most rfl (by omega) k2⟩) (by rw [rng_len]; simp; omega) fun out ho hy => ?_
      exact draws (n - 1) K (by omega) (fun l a b => hK _ ⟨l, rfl, by omega, b⟩) out ho hy
    rintro _ ⟨gs, rfl, hgn, hgs⟩
    simp only [List.set_cons_succ, List.set_cons_zero]
    clear draws
    have hg : gs.length + 1 = ps.length := by omega
    have hpb : ∀ y ∈ ps, 0 ≤ y ∧ y ≤ 1000 := fun y hy => by have := hps y hy; omega
    have hgb : ∀ y ∈ gs, 0 ≤ y ∧ y ≤ 1000 := fun y hy => by have := hgs y hy; omega
    have hsum : ps.length + gs.length ≤ 1000 := by omega
    have h0 : 0 < ps.length := by omega
    have half : (ps.length + gs.length) / 2 = ps.length - 1 := by omega
    refine st_if (fun K k => ?_) ?_
    · refine ⟨_, rfl, are_peaks_ok _ ?_⟩
      rw [pk_all ps hpb, tD_len, decide_eq_true (show 1 ≤ ps.length by omega), decide_eq_true (show ps.length ≤ 15 by omega)]
      refine ⟨_, rfl, go_no rfl ⟨_, rfl, _, rfl, are_ghosts_ok _ _ (by rw [tD_len]; omega) ?_⟩⟩
      rw [pk_all gs hgb, tD_len, tD_len, decide_eq_true hg]
      exact ⟨_, rfl, k⟩
    refine st_set (fun x => x = .int (midF (ps ++ gs) (ps.length - 1))) (fun K hK => ⟨_, rfl, _, rfl, middle_ok ps gs h0 hsum (hK _ rfl)⟩) ?_
    rintro _ rfl
    simp only [List.set_cons_succ, List.set_cons_zero]
    have hnI : (n : Int) = (ps.length : Int) := by omega
    refine st_if (fun K k => ?_) ?_
    · refine t_ne (fun x => x = .int (midF (ps ++ gs) (ps.length - 1))) (fun K hK => ⟨_, rfl, hK _ rfl⟩) ?_ ?_ (go_no rfl ?_)
      · rintro _ rfl K hK
        refine ⟨_, rfl, _, rfl, law_middle_ok ps gs (by omega) hsum ?_⟩
        rw [half]; exact hK
      · rintro _ rfl; exact okInt _
      refine t_ne (fun x => x = .int (ps.sum / ps.length)) (fun K hK => ⟨_, rfl, mean_ok ps h0 (by omega) (hK _ rfl)⟩) ?_ ?_ (go_no rfl ?_)
      · rintro _ rfl K hK
        refine ⟨_, rfl, _, ps, rfl, rfl, _, rfl, ⟨by omega, ?_⟩, ?_⟩
        · rw [Int.natAbs_natCast]
          exact Nat.lt_of_le_of_lt (log2_mono (show n ≤ 2 ^ 12 by omega)) (by decide)
        · rw [hnI]; exact hK
      · rintro _ rfl; exact okInt _
      refine t_ne (fun x => x = .int ((mnF ps + mxF ps) / 2)) (fun K hK => ⟨_, rfl, ends_ok ps h0 (hK _ rfl)⟩) ?_ ?_ k
      · rintro _ rfl K hK
        exact min_dt ps h0 (fun K k => ⟨_, rfl, k⟩) (max_dt ps h0 (fun K k => ⟨_, rfl, k⟩) ⟨⟨by decide, by decide⟩, hK⟩)
      · rintro _ rfl; exact okInt _
    refine st_if (fun K k => ?_) ?_
    · refine t_ne (fun x => x = .list (([.middle, .mean, .ends].map fun r => chF r ps gs).map PyData.int)) (fun K hK => ?_) ?_ ?_ (go_no rfl ?_)
      · refine ⟨show 3 ≤ sizeLine by decide, ?_⟩
        show wComp _ _ _ _ ([Rule.middle, .mean, .ends].map fun r => PyData.str r.s) _ _
        refine wComp_tm (fun r : Rule => PyData.str r.s) (fun r => .int (chF r ps gs)) _ (fun r _ K k => ⟨_, rfl, _, rfl, _, rfl, chosen_ok r ps gs h0 hsum k⟩) (show 3 ≤ sizeLine by decide) (hK _ ?_)
        rw [List.map_map]; rfl
      · rintro _ rfl K hK
        exact ⟨_, rfl, _, rfl, mean_ok ps h0 (by omega) ⟨_, rfl, ends_ok ps h0 ⟨show 3 ≤ sizeLine by decide, hK⟩⟩⟩
      · rintro _ rfl; exact okInts _
      · refine ⟨_, rfl, _, rfl, gainer_ok .middle ps gs (fun _ => none) (fun v x hv => no_gain hv hg hpb hgb) hsum ?_⟩
        have e : firstG (fun _ => none) ps.length = .none := by
          unfold firstG
          rw [List.filter_eq_nil_iff.mpr (fun _ _ => by simp)]
          rfl
        rw [e]
        exact ⟨_, rfl, k⟩
    refine st_set (fun x => ∃ v : Nat, x = .int v ∧ v < n) (fun K hK => ⟨rfl, _, rfl, tk _ n rfl (by omega) fun r hr => hK _ ⟨r, rfl, by omega⟩⟩) ?_
    rintro _ ⟨v, rfl, hvn⟩
    simp only [List.set_cons_succ, List.set_cons_zero]
    have hvl : v < ps.length := by omega
    obtain ⟨x, hx⟩ : ∃ x, ps[v]? = some x := ⟨_, List.getElem?_eq_getElem hvl⟩
    obtain ⟨lo, hi2, l0, lh, hi1, hput, hmid, hrest⟩ := clamp_ex hx hg hpb hgb
    refine st_set (fun x => x = .tuple [.int lo, .int hi2]) (fun K hK => ⟨_, rfl, _, rfl, _, rfl, reach_ok ps gs v hvl hsum ?_⟩) ?_
    · rw [hput 0 (by omega) (by omega), hput 1000 (by omega) (by omega), show max lo (min hi2 0) = lo by omega, show max lo (min hi2 1000) = hi2 by omega]
      exact hK _ rfl
    rintro _ rfl
    simp only [List.set_cons_succ, List.set_cons_zero]
    refine st_set (fun x => x = tD (rest ps gs v)) (fun K hK => ?_) ?_
    · refine ⟨_, rfl, _, rfl, _, rfl, _, rfl, _, rfl, _, rfl, ?_⟩
      simp only [dNo, slD, tD]
      rw [cut_pre ps (by omega), show (v : Int) + 1 = ((v + 1 : Nat) : Int) by omega, cut_post ps (by omega)]
      refine ⟨size_big (by simp; omega), _, rfl, size_big (by simp; omega), ?_⟩
      rw [← List.map_append, ← List.map_append]
      exact hK _ rfl
    rintro _ rfl
    simp only [List.set_cons_succ, List.set_cons_zero]
    obtain ⟨L, hL⟩ : ∃ L : List Int, (List.range (hi2 + 1 - lo).toNat).map (fun i => lo + ((i : Nat) : Int)) = L := ⟨_, rfl⟩
    have hLl : L.length = (hi2 + 1 - lo).toNat := by rw [← hL]; simp
    have hLg : ∀ j, j < L.length → L[j]? = some (lo + (j : Nat)) := fun j hj => by
      rw [← hL, List.getElem?_map, List.getElem?_range (by omega)]; rfl
    have at0 : atI (L.map PyData.int) 0 = some (.int lo) := atI_n (i := 0) (by rw [List.getElem?_map, hLg 0 (by omega)]; simp)
    have atL : atI (L.map PyData.int) (-1) = some (.int hi2) := atI_last (by rw [tD_len]; omega) (by
      rw [tD_len, List.getElem?_map, hLg _ (by omega)]
      show some (PyData.int _) = _
      rw [show lo + ((L.length - 1 : Nat) : Int) = hi2 by omega])
    refine st_set (fun x => x = .list (L.map PyData.int)) (fun K hK => ?_) ?_
    · refine ⟨⟨by decide, by decide⟩, ?_⟩
      refine wComp_rng (fun o => .int (max lo (min hi2 (o : Nat)))) 1001 (fun o ho K2 k2 => ⟨_, rfl, _, rfl, show 1 ≤ sizeLine by decide, ?_⟩) (size_big (by decide)) ?_
      · refine law_middle_ok (rest ps gs v) [((o : Nat) : Int)] (by simp) (by have := rest_len hvl gs; simp; omega) ?_
        have := hrest (o : Nat) (by omega) (by omega)
        rw [List.length_singleton, this]
        exact k2
      · refine ⟨(List.range 1001).map fun o => max lo (min hi2 ((o : Nat) : Int)), by rw [List.map_map]; rfl, by simp, fun ms hms hmem => ?_⟩
        have e : ms = L := by
          rw [← hL]
          refine row_of hms (by omega) fun k => ?_
          rw [hmem, List.mem_map]
          constructor
          · rintro ⟨o, _, rfl⟩
            omega
          · rintro ⟨h1, h2⟩
            exact ⟨k.toNat, List.mem_range.mpr (by omega), by omega⟩
        rw [e]
        exact hK _ rfl
    rintro _ rfl
    simp only [List.set_cons_succ, List.set_cons_zero]
    refine st_if (fun K k => ?_) ?_
    · refine t_ne (fun x => x = .tuple [.int lo, .int hi2]) (fun K hK => ⟨_, rfl, hK _ rfl⟩) ?_ ?_ (go_no rfl ?_)
      · rintro _ rfl K hK
        exact ⟨_, rfl, _, at0, _, rfl, _, atL, sz2 _ _, hK⟩
      · rintro _ rfl; exact okPair _ _
      refine t_ne (fun x => x = .list (L.map PyData.int)) (fun K hK => ⟨_, rfl, hK _ rfl⟩) ?_ ?_ (go_no rfl ?_)
      · rintro _ rfl K hK
        refine ⟨_, rfl, _, at0, _, rfl, _, atL, lo, hi2 + 1, rfl, rfl, ⟨l0, by omega, by omega, by omega⟩, ?_⟩
        rw [rng_ints, hL]; exact hK
      · rintro _ rfl; exact okInts _
      refine t_ne (fun y => y = .int (max lo (min hi2 x))) (fun K hK => ⟨_, rfl, _, rfl, _, atI_peak hx, _, rfl, nearest_ok _ lo hi2 (hK _ rfl)⟩) ?_ ?_ k
      · rintro _ rfl K hK
        refine ⟨_, rfl, ?_⟩
        rw [hmid]; exact hK
      · rintro _ rfl; exact okInt _
    refine st_if (fun K k => ?_) ?_
    · refine ⟨_, rfl, _, rfl, _, rfl, gain_ok .middle ps gs v x hx hsum ?_⟩
      rw [no_gain hx hg hpb hgb]
      exact ⟨_, rfl, k⟩
    refine st_for (fun r : Rule => PyData.str r.s) [.mean, .ends] (show 8 < 27 by decide) (fun K k => ⟨show 2 ≤ sizeLine by decide, k⟩) (fun r _ E' hE => st_if0 (fun K k => ?_) hE) (fun y8 => ?_)
    · obtain ⟨o, ho⟩ : ∃ o, gainF r ps gs v x = o := ⟨_, rfl⟩
      refine t_ne (fun y => y = oD o) (fun K hK => dcall_ok (fun K' k => ⟨_, rfl, _, rfl, _, rfl, _, rfl, k⟩) (gain_ok r ps gs v x hx hsum (by rw [ho]; exact hK _ rfl))) ?_ ?_ k
      · rintro _ rfl K hK
        exact dcall_ok (fun K' k => ⟨_, rfl, _, rfl, _, rfl, _, rfl, k⟩) (law_gain_ok r ps gs v x hx hg hsum (by rw [ho]; exact hK))
      · rintro _ rfl; exact okO _
    simp only [List.set_cons_succ, List.set_cons_zero]
    refine st_set (fun x => ∃ r : Rule, x = .str r.s) (fun K hK => ⟨rfl, show 2 ≤ sizeLine by decide, pick_ok _ (show 0 < 2 by decide) (show 2 < 1000 by decide) fun x hx => ?_⟩) ?_
    · have hx : x ∈ [PyData.str Rule.mean.s, .str Rule.ends.s] := hx
      simp only [List.mem_cons, List.not_mem_nil, or_false] at hx
      rcases hx with rfl | rfl
      · exact hK _ ⟨_, rfl⟩
      · exact hK _ ⟨_, rfl⟩
    rintro _ ⟨r, rfl⟩
    simp only [List.set_cons_succ, List.set_cons_zero]
    obtain ⟨F, hF⟩ : ∃ F : Nat → Option Nat, F = fun w => gainF r ps gs w ((ps[w]?).getD 0) := ⟨_, rfl⟩
    have hF1 : ∀ w y, ps[w]? = some y → gainF r ps gs w y = F w := fun w y h => by rw [hF]; show _ = gainF r ps gs w ((ps[w]?).getD 0); rw [h]; rfl
    refine st_set (fun x => x = firstG F ps.length) (fun K hK => dcall_ok (fun K' k => ⟨_, rfl, _, rfl, _, rfl, k⟩) (gainer_ok r ps gs F hF1 hsum (hK _ rfl))) ?_
    rintro _ rfl
    simp only [List.set_cons_succ, List.set_cons_zero]
    refine st_if (fun K k => ?_) ?_
    · refine ⟨_, rfl, _, rfl, go_if (fun h => ?_) (fun h => k)⟩
      refine t_ne (fun y => y = firstG F ps.length) (fun K hK => ⟨_, rfl, hK _ rfl⟩) ?_ ?_ k
      · rintro _ rfl K hK
        refine ⟨_, rfl, ⟨by show -(2 ^ 62) ≤ (n : Int); omega, by show (n : Int) < 2 ^ 62; omega⟩, ?_⟩
        have lg : ∀ (i : Nat) (K : D → Prop), i < n → K (oD (F i)) → wp__law_gain [.d (.str r.s), .d (tD ps), .d (tD gs), .d (.int i)] K := fun i K hi h => by
          have hxi : ps[i]? = some (ps[i]'(by omega)) := List.getElem?_eq_getElem (by omega)
          refine law_gain_ok r ps gs i _ hxi hg hsum ?_
          rw [hF1 i _ hxi]; exact h
        refine wComp_rngT (fun i => (F i).isSome) (fun i => .tuple [.int (i : Nat), oD (F i)]) n (fun i hi K1 K2 k1 k2 => ?_) (size_big (by omega)) ?_
        · refine dcall_ok (fun K' k => ⟨_, rfl, _, rfl, _, rfl, _, rfl, k⟩) (lg i _ hi ⟨_, rfl, go_if (fun h => ?_) (fun h => ?_)⟩)
          · refine ⟨_, rfl, dcall_ok (fun K' k => ⟨_, rfl, _, rfl, _, rfl, _, rfl, k⟩) (lg i _ hi ⟨sz2 _ _, k1 ?_⟩)⟩
            cases hf : F i with
            | none => rw [hf] at h; cases h
            | some s => rfl
          · refine k2 ?_
            cases hf : F i with
            | none => rfl
            | some s => rw [hf] at h; cases h
        · have e : firstG F ps.length = match ((List.range n).filter fun i => (F i).isSome).head? with
              | none => PyData.none
              | some i => .tuple [.int (i : Nat), oD (F i)] := by rw [← hn]; rfl
          rw [e] at hK
          generalize ((List.range n).filter fun i => (F i).isSome) = fl at hK
          cases fl with
          | nil => exact ⟨_, rfl, go_no rfl ⟨show 1 ≤ sizeLine by decide, _, rfl, hK⟩⟩
          | cons i fl => exact ⟨_, rfl, go_yes rfl ⟨_, atI_n (i := 0) rfl, hK⟩⟩
      · rintro _ rfl; exact okFirst _ _
    refine st_if (fun K k => ?_) ?_
    · rcases firstG_cases F ps.length with e | ⟨j, s, hj, hs, e⟩
      · rw [e]
        exact ⟨_, rfl, _, rfl, go_no rfl k⟩
      · rw [e]
        have hxj : ps[j]? = some ps[j] := List.getElem?_eq_getElem hj
        refine ⟨_, rfl, _, rfl, go_yes rfl ?_⟩
        refine ⟨_, rfl, _, rfl, _, rfl, _, rfl, _, rfl, _, rfl, told_ok ps j s hj (by omega) ⟨_, rfl, law_chosen_ok r (put ps j s) gs (by rw [put_len hj]; omega) (by rw [put_len hj]; omega) (by rw [put_len hj]; omega) ?_⟩⟩
        refine ⟨_, rfl, _, rfl, _, rfl, _, atI_peak hxj, _, rfl, _, rfl, _, rfl, law_chosen_ok r ps gs h0 hg hsum ⟨_, rfl, _, rfl, _, rfl, _, atI_peak hxj, _, rfl, ?_⟩⟩
        have g := (gf_some (f := far r ps gs j ps[j]) (t := ((chF r ps gs - ps[j]).natAbs : Int)) 1001).2 s (by
          have := hF1 j _ hxj
          unfold gainF at this
          rw [this, hs])
        have z : decide (((chF r ps gs - ps[j]).natAbs : Int) ≤ ((chF r (put ps j s) gs - ps[j]).natAbs : Int)) = false := decide_eq_false (by have := g.2; unfold far at this; omega)
        rw [z]
        exact k
    clear hF1 hF hrest hmid hput at0 atL hLg hLl hL
    obtain ⟨low, hlow⟩ : ∃ low, midF ps ((ps.length - 1) / 2) = low := ⟨_, rfl⟩
    obtain ⟨high, hhigh⟩ : ∃ high, midF ps (ps.length / 2) = high := ⟨_, rfl⟩
    have gl := midF_get (l := ps) (k := (ps.length - 1) / 2) (by omega)
    have gh := midF_get (l := ps) (k := ps.length / 2) (by omega)
    rw [hlow] at gl
    rw [hhigh] at gh
    have A1 := gl.2.1
    have A2 := gh.2.1
    have lhh := low_high A1 A2
    have lowb := hps low gl.2.2
    have highb := hps high gh.2.2
    refine st_asg2 (fun x y => x = .int low ∧ y = .int high) (fun K hK => dcall_ok (fun K' k => ⟨_, rfl, k⟩) (unbeaten_ok ps h0 (by rw [hlow, hhigh]; exact hK _ _ ⟨rfl, rfl⟩))) ?_
    rintro _ _ ⟨rfl, rfl⟩
    simp only [List.set_cons_succ, List.set_cons_zero]
    refine st_set (fun x => x = .list ((srt ps).map PyData.int)) (fun K hK => sorted_dt ps (fun K k => ⟨_, rfl, k⟩) (hK _ rfl)) ?_
    rintro _ rfl
    simp only [List.set_cons_succ, List.set_cons_zero]
    refine st_if (fun K k => ?_) ?_
    · refine t_ne (fun x => x = .tuple [.int low, .int high]) (fun K hK => ⟨_, rfl, _, rfl, sz2 _ _, hK _ rfl⟩) ?_ ?_ k
      · rintro _ rfl K hK
        have e1 : ((n : Int) - 1) / 2 = (((ps.length - 1) / 2 : Nat) : Int) := by omega
        have e2 : (n : Int) / 2 = ((ps.length / 2 : Nat) : Int) := by omega
        refine ⟨_, rfl, _, rfl, ⟨by decide, by decide⟩, _, (congrArg (atI _) e1).trans (atI_mid (by omega)), _, rfl, _, rfl, ⟨by decide, by decide⟩, _, (congrArg (atI _) e2).trans (atI_mid (by omega)), sz2 _ _, ?_⟩
        rw [hlow, hhigh]
        exact hK
      · rintro _ rfl; exact okPair _ _
    obtain ⟨R, hR⟩ : ∃ R : Nat, min 1001 (most + 1) = R := ⟨_, rfl⟩
    refine st_set (fun x => x = .list (((List.range R).map fun o => dist ((o : Nat) : Int) ps).map PyData.int)) (fun K hK => ?_) ?_
    · refine ⟨_, rfl, ⟨by show -(2 ^ 62) ≤ min (1001 : Int) ((most : Int) + 1); omega, by show min (1001 : Int) ((most : Int) + 1) < 2 ^ 62; omega⟩, ?_⟩
      show wComp _ _ _ _ (rngD 0 (min (1001 : Int) ((most : Int) + 1))) _ _
      rw [show min (1001 : Int) ((most : Int) + 1) = (R : Int) by omega]
      refine wComp_rng (fun o => .int (dist ((o : Nat) : Int) ps)) R (fun o ho K2 k2 => ⟨_, rfl, ?_⟩) (size_big (by omega)) (hK _ ?_)
      · refine wComp_tm PyData.int (fun k => .int ((k - ((o : Nat) : Int)).natAbs : Int)) ps (fun a _ K k => ⟨_, rfl, _, rfl, k⟩) (size_big (by omega)) ?_
        exact ⟨_, ps.map fun k => ((k - ((o : Nat) : Int)).natAbs : Int), rfl, by rw [List.map_map]; rfl, k2⟩
      · rw [List.map_map]; rfl
    rintro _ rfl
    simp only [List.set_cons_succ, List.set_cons_zero]
    obtain ⟨sums, hsums⟩ : ∃ sums : List Int, (List.range R).map (fun o => dist ((o : Nat) : Int) ps) = sums := ⟨_, rfl⟩
    have sl : sums.length = R := by rw [← hsums]; simp
    have sg : ∀ o, o < R → sums[o]? = some (dist ((o : Nat) : Int) ps) := fun o ho => by rw [← hsums, List.getElem?_map, List.getElem?_range ho]; rfl
    have smin : mnF sums = dist low ps := mnF_eq (by rw [← hsums]; exact List.mem_map.mpr ⟨low.toNat, List.mem_range.mpr (by omega), by rw [show ((low.toNat : Nat) : Int) = low by omega]⟩) (fun y hy => by
      rw [← hsums] at hy
      obtain ⟨o, _, rfl⟩ := List.mem_map.mp hy
      exact dist_min A1 A2 h0 _)
    rw [hsums]
    refine st_if (fun K k => ?_) ?_
    · refine t_ne (fun x => x = .list (rngD low (high + 1))) (fun K hK => ?_) ?_ ?_ k
      · refine ⟨_, rfl, ⟨by show -(2 ^ 62) ≤ (((sums.map PyData.int).length : Nat) : Int); omega, by show (((sums.map PyData.int).length : Nat) : Int) < 2 ^ 62; rw [tD_len]; omega⟩, ?_⟩
        show wComp _ _ _ _ (rngD 0 (((sums.map PyData.int).length : Nat) : Int)) _ _
        rw [tD_len, sl]
        refine wComp_rngT (fun o => decide (low.toNat ≤ o) && decide (o < high.toNat + 1)) (fun o => .int (o : Nat)) R (fun o ho K1 K2 k1 k2 => ?_) (size_big (by omega)) ?_
        · refine ⟨_, rfl, _, rfl, _, atI_n (by rw [List.getElem?_map, sg o ho]; rfl), min_dl sums (by omega) (fun K k => ⟨_, rfl, k⟩) ⟨dep0 _ _, _, rfl, ?_⟩⟩
          rw [smin, eqv_int]
          by_cases c : low ≤ (o : Int) ∧ (o : Int) ≤ high
          · rw [decide_eq_true (dist_in A1 A2 h0 c.1 c.2)]
            refine go_yes rfl ⟨_, rfl, k1 ?_⟩
            rw [decide_eq_true (show low.toNat ≤ o by omega), decide_eq_true (show o < high.toNat + 1 by omega)]; rfl
          · have := dist_out A1 A2 h0 c
            rw [decide_eq_false (show ¬ dist (o : Int) ps = dist low ps by omega)]
            refine go_no rfl (k2 ?_)
            by_cases c2 : low.toNat ≤ o
            · rw [decide_eq_true c2, decide_eq_false (show ¬ o < high.toNat + 1 by omega)]; rfl
            · rw [decide_eq_false c2]; rfl
        · rw [filter_rng (by omega)]
          refine hK _ ?_
          unfold rngD
          rw [List.map_map, show high.toNat + 1 - low.toNat = (high + 1 - low).toNat by omega]
          refine congrArg PyData.list (List.map_congr_left fun i _ => ?_)
          show PyData.int (((low.toNat + i : Nat) : Int)) = .int (low + (i : Nat))
          rw [show ((low.toNat + i : Nat) : Int) = low + (i : Nat) by omega]
      · rintro _ rfl K hK
        exact ⟨_, rfl, _, rfl, low, high + 1, rfl, rfl, ⟨by omega, by omega, by omega, by omega⟩, hK⟩
      · rintro _ rfl
        rw [rng_ints]; exact okInts _
    clear smin sg sl
    refine ⟨⟨by decide, by decide⟩, ?_⟩
    refine wFor_rng (fun _ ρ => ρ.length = 27 ∧ ρ[1]? = some (some .st) ∧ ρ[3]? = some (some (.d (.int n))) ∧ ρ[4]? = some (some (.d (.int most))) ∧ ρ[5]? = some (some (.d (tD ps))) ∧ ρ[6]? = some (some (.d (tD gs))) ∧ ρ[15]? = some (some (.d (.int low))) ∧ ρ[16]? = some (some (.d (.int high)))) 6 _ ⟨rfl, rfl, rfl, rfl, rfl, rfl, rfl, rfl⟩ ?_ ?_
    · rintro j ρ hj ⟨hl, e1, e3, e4, e5, e6, e15, e16⟩ K2 hK2
      obtain ⟨b0, b1, b2, b3, b4, b5, b6, b7, b8, b9, b10, b11, b12, b13, b14, b15, b16, b17, b18, b19, b20, b21, b22, b23, b24, b25, b26, rfl⟩ := ex27 ρ hl
      obtain rfl : b1 = _ := by injection e1
      obtain rfl : b3 = _ := by injection e3
      obtain rfl : b4 = _ := by injection e4
      obtain rfl : b5 = _ := by injection e5
      obtain rfl : b6 = _ := by injection e6
      obtain rfl : b15 = _ := by injection e15
      obtain rfl : b16 = _ := by injection e16
      show dSeq _ _ _ _
      refine st_asg2 (fun x y => ∃ p q : Nat, x = .int p ∧ y = .int q) (fun K hK => ⟨rfl, _, rfl, tk _ most rfl (by omega) fun r hr => ⟨rfl, _, rfl, tk _ most rfl (by omega) fun r2 hr2 => ⟨sz2 _ _, hK _ _ ⟨r, r2, rfl, rfl⟩⟩⟩⟩) ?_
      rintro _ _ ⟨p, q, rfl, rfl⟩
      simp only [List.set_cons_succ, List.set_cons_zero]
      obtain ⟨one, hone⟩ : ∃ one : Int, ((p : Nat) : Int) = one := ⟨_, rfl⟩
      obtain ⟨oth, hoth⟩ : ∃ oth : Int, ((q : Nat) : Int) = oth := ⟨_, rfl⟩
      rw [hone, hoth]
      refine st_set (fun x => x = .bool (decide (near one oth ps < near oth one ps))) (fun K hK => ?_) ?_
      · refine ⟨_, rfl, ?_⟩
        refine wComp_t PyData.int (fun k => decide (((k - oth).natAbs : Int) < ((k - one).natAbs : Int))) PyData.int ps (fun a _ K1 K2 k1 k2 => ⟨_, rfl, _, rfl, _, rfl, _, rfl, _, rfl, go_if (fun h => ⟨_, rfl, k1 h⟩) k2⟩) (size_big (by omega)) ?_
        refine ⟨_, rfl, ?_⟩
        refine wComp_t PyData.int (fun k => decide (((k - one).natAbs : Int) < ((k - oth).natAbs : Int))) PyData.int ps (fun a _ K1 K2 k1 k2 => ⟨_, rfl, _, rfl, _, rfl, _, rfl, _, rfl, go_if (fun h => ⟨_, rfl, k1 h⟩) k2⟩) (size_big (by omega)) ?_
        show K (.bool (decide (((((ps.filter fun k => decide (((k - one).natAbs : Int) < ((k - oth).natAbs : Int))).map PyData.int).length : Nat) : Int) < ((((ps.filter fun k => decide (((k - oth).natAbs : Int) < ((k - one).natAbs : Int))).map PyData.int).length : Nat) : Int))))
        rw [List.length_map, List.length_map, near_len, near_len]
        rw [show decide (((near one oth ps : Nat) : Int) < ((near oth one ps : Nat) : Int)) = decide (near one oth ps < near oth one ps) from decide_eq_decide.mpr (by omega)]
        exact hK _ rfl
      rintro _ rfl
      simp only [List.set_cons_succ, List.set_cons_zero]
      refine st_if (fun K k => ?_) (st_if0 (fun K k => ?_) (hK2 _ ⟨rfl, rfl, rfl, rfl, rfl, rfl, rfl, rfl⟩))
      · refine t_ne (fun x => x = .bool (decide (near one oth ps < near oth one ps))) (fun K hK => dcall_ok (fun K' k => ⟨_, rfl, _, rfl, _, rfl, k⟩) (beaten_ok ps one oth (by omega) (hK _ rfl))) ?_ ?_ (go_no rfl ?_)
        · rintro _ rfl K hK
          exact ⟨_, rfl, hK⟩
        · rintro _ rfl
          exact ⟨Nat.zero_le _, rfl⟩
        have last : ∀ K : Bool → Prop, K false → dTest (dOp neD (dCall wp_distances (bCons (dVar 5) (bCons (dVar 18) bNil))) (dCB sumD (dCons (dComp (dSeqI (dVar 5)) (gN 24) dYes (dCB absD (dCons (dOp subD (dVar 24) (dVar 18)) dNil)) [24]) dNil))) (peek [b0, some .st, b2, some (.d (.int n)), some (.d (.int most)), some (.d (tD ps)), some (.d (tD gs)), b7, b8, b9, b10, b11, some (.d (.int oth)), b13, b14, some (.d (.int low)), some (.d (.int high)), b17, some (.d (.int one)), b19, some (.d (.int (j : Nat))), some (.d (.bool (decide (near one oth ps < near oth one ps)))), b22, b23, b24, b25, b26]) K := fun K k => by
          refine t_ne (fun x => x = .int (dist one ps)) (fun K hK => dcall_ok (fun K' k => ⟨_, rfl, _, rfl, k⟩) (distances_ok ps one (by omega) (hK _ rfl))) ?_ ?_ k
          · rintro _ rfl K hK
            refine ⟨_, rfl, ?_⟩
            refine wComp_tm PyData.int (fun k => .int ((k - one).natAbs : Int)) ps (fun a _ K k => ⟨_, rfl, _, rfl, k⟩) (size_big (by omega)) ?_
            exact ⟨_, ps.map fun k => ((k - one).natAbs : Int), rfl, by rw [List.map_map]; rfl, hK⟩
          · rintro _ rfl; exact okInt _
        refine ⟨_, rfl, _, rfl, _, rfl, go_if (fun h => ?_) (fun h => ?_)⟩
        · have h : low ≤ one := of_decide_eq_true h
          refine ⟨_, rfl, _, rfl, go_if (fun h2 => ?_) (fun h2 => go_no rfl (last _ k))⟩
          have h2 : one ≤ high := of_decide_eq_true h2
          have := unbeaten_in A1 A2 h h2 oth
          refine ⟨_, rfl, _, rfl, ?_⟩
          exact go_no (decide_eq_false (show ¬ near one oth ps < near oth one ps by omega)) (last _ k)
        · exact ⟨_, rfl, go_no rfl (go_no rfl (last _ k))⟩
      · have out : ¬ (low ≤ one ∧ one ≤ high) → ∀ K : Bool → Prop, K false → dNot (dTest (dCall wp_beaten (bCons (dVar 5) (bCons (dVar 18) (bCons (dIf (dTest (dOp ltD (dVar 18) (dVar 15))) (dVar 15) (dVar 16)) bNil))))) (peek [b0, some .st, b2, some (.d (.int n)), some (.d (.int most)), some (.d (tD ps)), some (.d (tD gs)), b7, b8, b9, b10, b11, some (.d (.int oth)), b13, b14, some (.d (.int low)), some (.d (.int high)), b17, some (.d (.int one)), b19, some (.d (.int (j : Nat))), some (.d (.bool (decide (near one oth ps < near oth one ps)))), b22, b23, b24, b25, b26]) K := fun c K k => by
          by_cases d : one < low
          · refine dcall_ok (es := [.d (tD ps), .d (.int one), .d (.int low)]) (fun K' k => ⟨_, rfl, _, rfl, _, rfl, _, rfl, _, rfl, go_yes (decide_eq_true d) ⟨_, rfl, k⟩⟩) (beaten_ok ps one low (by omega) ⟨_, rfl, ?_⟩)
            rw [decide_eq_true (beaten_low A1 A2 d)]
            exact k
          · refine dcall_ok (es := [.d (tD ps), .d (.int one), .d (.int high)]) (fun K' k => ⟨_, rfl, _, rfl, _, rfl, _, rfl, _, rfl, go_no (decide_eq_false d) ⟨_, rfl, k⟩⟩) (beaten_ok ps one high (by omega) ⟨_, rfl, ?_⟩)
            rw [decide_eq_true (beaten_high A1 A2 (show high < one by omega))]
            exact k
        refine ⟨_, rfl, _, rfl, _, rfl, go_if (fun h => ?_) (fun h => ?_)⟩
        · have h : low ≤ one := of_decide_eq_true h
          refine ⟨_, rfl, _, rfl, go_if (fun h2 => ?_) (fun h2 => ?_)⟩
          · have h2 : decide (one ≤ high) = false := by rw [Bool.not_eq_true'] at h2; exact h2
            exact out (fun z => of_decide_eq_false h2 z.2) _ k
          · exact k
        · have h : ¬ low ≤ one := of_decide_eq_false h
          exact ⟨_, rfl, go_yes rfl (out (fun z => h z.1) _ k)⟩
    rintro ρ ⟨hl, e1, e3, e4, e5, e6, e15, e16⟩
    obtain ⟨b0, b1, b2, b3, b4, b5, b6, b7, b8, b9, b10, b11, b12, b13, b14, b15, b16, b17, b18, b19, b20, b21, b22, b23, b24, b25, b26, rfl⟩ := ex27 ρ hl
    obtain rfl : b1 = _ := by injection e1
    obtain rfl : b3 = _ := by injection e3
    obtain rfl : b4 = _ := by injection e4
    obtain rfl : b5 = _ := by injection e5
    obtain rfl : b6 = _ := by injection e6
    dsimp only
    refine st_set (fun x => ∃ A B : Int, x = .tuple [.int A, .int B] ∧ A ≤ B ∧ (0 ≤ A ∧ A < most) ∧ (0 ≤ B ∧ B < most) ∧ ∀ a b, dist2 A B ps ≤ dist2 a b ps) (fun K hK => dcall_ok (fun K' k => ⟨_, rfl, k⟩) (two_spots_ok ps h0 (by omega) fun c c1 c2 hc => ?_)) ?_
    · have hsl := srt_len ps
      obtain ⟨o1, o2, o3⟩ := pA_le_pB (srt_sorted ps) (c := c) c1 (by omega)
      refine hK _ ⟨_, _, rfl, o1, hps _ ((srt_perm ps).mem_iff.mp o2), hps _ ((srt_perm ps).mem_iff.mp o3), fun a b => ?_⟩
      have := cost_best (srt_sorted ps) (by omega) (c := c) (fun d d1 d2 => hc d d1 (by omega)) a b
      rw [dist2_perm a b (srt_perm ps)] at this
      unfold cost at this
      rw [dist2_perm _ _ (srt_perm ps)] at this
      exact this
    rintro _ ⟨A, B, rfl, hAB, hA, hB, hbest⟩
    simp only [List.set_cons_succ, List.set_cons_zero]
    refine st_set (fun x => x = .int (dist2 A B ps)) (fun K hK => ?_) ?_
    · refine ⟨_, rfl, ?_⟩
      refine wComp_tm PyData.int (fun k => .int (min ((k - A).natAbs : Int) ((k - B).natAbs : Int))) ps (fun a _ K k => ⟨_, rfl, _, rfl, _, rfl, _, rfl, _, rfl, _, rfl, k⟩) (size_big (by omega)) ?_
      exact ⟨_, ps.map fun k => min ((k - A).natAbs : Int) ((k - B).natAbs : Int), rfl, by rw [List.map_map]; rfl, hK _ rfl⟩
    rintro _ rfl
    simp only [List.set_cons_succ, List.set_cons_zero]
    refine st_if (fun K k => ?_) ?_
    · refine ⟨_, rfl, _, rfl, _, rfl, _, rfl, _, rfl, go_no (decide_eq_false (by omega)) ⟨_, rfl, _, rfl, go_if (fun h => ?_) (fun h => k)⟩⟩
      have h : (most : Int) < 13 := of_decide_eq_true h
      refine t_ne (fun x => x = .int (dist2 A B ps)) (fun K hK => ⟨_, rfl, hK _ rfl⟩) ?_ ?_ k
      · rintro _ rfl K hK
        refine min_dl ((List.range most).map fun a => mnF ((List.range most).map fun b => dist2 ((a : Nat) : Int) ((b : Nat) : Int) ps)) (by simp; omega) (fun K k => ?_) ?_
        · refine ⟨_, rfl, ⟨by show -(2 ^ 62) ≤ (most : Int); omega, by show (most : Int) < 2 ^ 62; omega⟩, ?_⟩
          refine wComp_rng (fun a => .int (mnF ((List.range most).map fun b => dist2 ((a : Nat) : Int) ((b : Nat) : Int) ps))) most (fun a ha K2 k2 => ?_) (size_big (by omega)) (by rw [List.map_map] at k; exact k)
          refine min_dl ((List.range most).map fun b => dist2 ((a : Nat) : Int) ((b : Nat) : Int) ps) (by simp; omega) (fun K k => ?_) k2
          refine ⟨_, rfl, ⟨by show -(2 ^ 62) ≤ (most : Int); omega, by show (most : Int) < 2 ^ 62; omega⟩, ?_⟩
          refine wComp_rng (fun b => .int (dist2 ((a : Nat) : Int) ((b : Nat) : Int) ps)) most (fun b hb K3 k3 => ⟨_, rfl, ?_⟩) (size_big (by omega)) (by rw [List.map_map] at k; exact k)
          refine wComp_tm PyData.int (fun k => .int (min ((k - ((a : Nat) : Int)).natAbs : Int) ((k - ((b : Nat) : Int)).natAbs : Int))) ps (fun x _ K k => ⟨_, rfl, _, rfl, _, rfl, _, rfl, k⟩) (size_big (by omega)) ?_
          exact ⟨_, ps.map fun k => min ((k - ((a : Nat) : Int)).natAbs : Int) ((k - ((b : Nat) : Int)).natAbs : Int), rfl, by rw [List.map_map]; rfl, k3⟩
        · have inner : ∀ a : Nat, dist2 A B ps ≤ mnF ((List.range most).map fun b => dist2 ((a : Nat) : Int) ((b : Nat) : Int) ps) := fun a => by
            have := (mnF_spec (l := (List.range most).map fun b => dist2 ((a : Nat) : Int) ((b : Nat) : Int) ps) (by simp; omega)).1
            obtain ⟨b, _, e⟩ := List.mem_map.mp this
            rw [← e]; exact hbest _ _
          have hA' : ((A.toNat : Nat) : Int) = A := by omega
          have hB' : ((B.toNat : Nat) : Int) = B := by omega
          have e2 : mnF ((List.range most).map fun b => dist2 ((A.toNat : Nat) : Int) ((b : Nat) : Int) ps) = dist2 A B ps :=
            mnF_eq (List.mem_map.mpr ⟨B.toNat, List.mem_range.mpr (by omega), by rw [hA', hB']⟩) (fun y hy => by
              obtain ⟨b, _, rfl⟩ := List.mem_map.mp hy
              exact hbest _ _)
          rw [mnF_eq (m := dist2 A B ps) (List.mem_map.mpr ⟨A.toNat, List.mem_range.mpr (by omega), e2⟩) (fun y hy => by
            obtain ⟨a, _, rfl⟩ := List.mem_map.mp hy
            exact inner a)]
          exact hK
      · rintro _ rfl; exact okInt _
    refine st_for (fun x : D => x) (oddP ps) (show 23 < 27 by decide) (fun K k => ?_) (fun x hx E' hE => st_if0 (fun K k => dcall_ok (fun K' k => ⟨_, rfl, k⟩) (odd_peaks ps hpb h0 (by omega) x hx ⟨_, rfl, k⟩)) hE) (fun y23 => ?_)
    · rw [List.map_id'] at k
      refine ⟨_, rfl, show 0 ≤ sizeLine by decide, _, rfl, show 1 ≤ sizeLine by decide, size_big (by simp; omega), _, rfl, show 1 ≤ sizeLine by decide, size_big (by simp; omega), _, rfl, show 1 ≤ sizeLine by decide, size_big (by simp; omega), _, rfl, show 1 ≤ sizeLine by decide, size_big (by simp; omega), show 1 ≤ sizeLine by decide, ⟨by decide, by decide, show 1 ≤ 1000 by decide⟩, show 8 ≤ sizeLine by decide, k⟩
    simp only [List.set_cons_succ, List.set_cons_zero]
    refine st_for0 (fun x : D => x) (oddG n gs) (show 23 < 27 by decide) (fun K k => ?_) (fun x hx E' hE => st_if0 (fun K k => dcall_ok (fun K' k => ⟨_, rfl, _, rfl, k⟩) (odd_ghosts ps gs n hn hgn n2 x hx ⟨_, rfl, k⟩)) hE) (fun y23 => hK _ ⟨rfl, rfl⟩)
    rw [List.map_id'] at k
    refine ⟨_, rfl, _, rfl, show 1 ≤ sizeLine by decide, size_big (by simp; omega), show 1 ≤ sizeLine by decide, _, rfl, ⟨?_, ?_, show 1 ≤ 1000 by decide⟩, show 1 ≤ sizeLine by decide, ?_, _, rfl, _, rfl, ?_⟩
    · show -(2 ^ 62) ≤ (n : Int) - 1
      omega
    · show (n : Int) - 1 ≤ 1000
      omega
    · refine size_big ?_
      show ((List.replicate ((n : Int) - 1).toNat [PyData.none]).flatten).length + 1 ≤ 16777216
      simp; omega
    · unfold oddG at k
      by_cases c : 1 < n
      · rw [if_pos c] at k
        refine go_yes (decide_eq_true (by omega)) ⟨show 1 ≤ sizeLine by decide, _, rfl, ⟨?_, ?_, show 1 ≤ 1000 by decide⟩, show 5 ≤ sizeLine by decide, k⟩
        · show -(2 ^ 62) ≤ (n : Int) - 1
          omega
        · show (n : Int) - 1 ≤ 1000
          omega
      · rw [if_neg c] at k
        exact go_no (decide_eq_false (by omega)) ⟨show 5 ≤ sizeLine by decide, k⟩
  · rintro ρ ⟨hl, h1⟩
    dsimp only [dRet, dAndV, dOp]
    refine dcall_ok (es := [.d (.str Rule.mean.s), .d (tD [0, 10]), .d (tD [0])]) (fun K' k => ⟨sz2 _ _, show 1 ≤ sizeLine by decide, k⟩) (gainer_ok .mean [0, 10] [0] (fun w => if w = 0 then none else some 20) ?_ (by decide) ?_)
    · intro v x hv
      match v, hv with
      | 0, hv => have : x = 0 := by simpa using hv.symm
                 subst this; exact gain_0
      | 1, hv => have : x = 10 := by simpa using hv.symm
                 subst this; exact gain_1
      | v + 2, hv => simp at hv
    have e : firstG (fun w => if w = 0 then none else some 20) ([0, 10] : List Int).length = .tuple [.int 1, .int 20] := by rfl
    rw [e]
    refine ⟨sz2 _ _, ?_, _, rfl, go_yes rfl ?_⟩
    · exact Nat.le_trans (Nat.min_le_left _ _) (okPair 1 20).1
    refine dcall_ok (es := [.d (.str Rule.mean.s), .d (tD [0, 10]), .d (tD [0]), .d (.int ((0 : Nat) : Int))]) (fun K' k => ⟨sz2 _ _, show 1 ≤ sizeLine by decide, k⟩) (gain_ok .mean [0, 10] [0] 0 0 rfl (by decide) ?_)
    rw [gain_0]
    refine ⟨_, rfl, go_yes rfl ⟨sz2 _ _, nearest_ok 5 7 9 ⟨dep0 _ _, _, rfl, go_yes rfl ?_⟩⟩⟩
    refine dcall_ok (es := [.d (tD [3]), .d (tD [])]) (fun K' k => ⟨show 1 ≤ sizeLine by decide, show 0 ≤ sizeLine by decide, k⟩) (middle_ok [3] [] (by decide) (by decide) ⟨dep0 _ _, ?_⟩)
    have : midF ([3] ++ []) (([3] : List Int).length - 1) = 3 := midF_at (by decide) ⟨by decide, by decide⟩
    rw [this]
    rfl
theorem law_ok : lawOk := turn_of rfl rfl
end T68

namespace T68
open PySem PySem.Spec PyProof.Rows L2 Dw
def dd_is_whole : He.DefD := ⟨("is_whole", none), "is_whole", "is_whole", defArgs s_is_whole, defBody s_is_whole, defScope s_is_whole, [], []⟩
def dd_are_peaks : He.DefD := ⟨("are_peaks", none), "are_peaks", "are_peaks", defArgs s_are_peaks, defBody s_are_peaks, defScope s_are_peaks, [], []⟩
def dd_middle : He.DefD := ⟨("middle", none), "middle", "middle", defArgs s_middle, defBody s_middle, defScope s_middle, [], []⟩
def dd_are_ghosts : He.DefD := ⟨("are_ghosts", none), "are_ghosts", "are_ghosts", defArgs s_are_ghosts, defBody s_are_ghosts, defScope s_are_ghosts, [], []⟩
def dd_mean : He.DefD := ⟨("mean", none), "mean", "mean", defArgs s_mean, defBody s_mean, defScope s_mean, [], []⟩
def dd_ends : He.DefD := ⟨("ends", none), "ends", "ends", defArgs s_ends, defBody s_ends, defScope s_ends, [], []⟩
def dd_chosen : He.DefD := ⟨("chosen", none), "chosen", "chosen", defArgs s_chosen, defBody s_chosen, defScope s_chosen, [], []⟩
def dd_told_otherwise : He.DefD := ⟨("told_otherwise", none), "told_otherwise", "told_otherwise", defArgs s_told_otherwise, defBody s_told_otherwise, defScope s_told_otherwise, [], []⟩
def dd_gain : He.DefD := ⟨("gain", none), "gain", "gain", defArgs s_gain, defBody s_gain, defScope s_gain, [], []⟩
def dd_gainer : He.DefD := ⟨("gainer", none), "gainer", "gainer", defArgs s_gainer, defBody s_gainer, defScope s_gainer, [], []⟩
def dd_reach : He.DefD := ⟨("reach", none), "reach", "reach", defArgs s_reach, defBody s_reach, defScope s_reach, [], []⟩
def dd_nearest : He.DefD := ⟨("nearest", none), "nearest", "nearest", defArgs s_nearest, defBody s_nearest, defScope s_nearest, [], []⟩
def dd_beaten : He.DefD := ⟨("beaten", none), "beaten", "beaten", defArgs s_beaten, defBody s_beaten, defScope s_beaten, [], []⟩
def dd_unbeaten : He.DefD := ⟨("unbeaten", none), "unbeaten", "unbeaten", defArgs s_unbeaten, defBody s_unbeaten, defScope s_unbeaten, [], []⟩
def dd_distances : He.DefD := ⟨("distances", none), "distances", "distances", defArgs s_distances, defBody s_distances, defScope s_distances, [], []⟩
def dd_two_spots : He.DefD := ⟨("two_spots", none), "two_spots", "two_spots", defArgs s_two_spots, defBody s_two_spots, defScope s_two_spots, [], []⟩
def dd__law_state : He.DefD := ⟨("_law_state", none), "_law_state", "_law_state", defArgs s__law_state, defBody s__law_state, defScope s__law_state, [], []⟩
def dd__law_take : He.DefD := ⟨("_law_take", none), "_law_take", "_law_take", defArgs s__law_take, defBody s__law_take, defScope s__law_take, [], []⟩
def dd__law_pick : He.DefD := ⟨("_law_pick", none), "_law_pick", "_law_pick", defArgs s__law_pick, defBody s__law_pick, defScope s__law_pick, [], []⟩
def dd__law_middle : He.DefD := ⟨("_law_middle", none), "_law_middle", "_law_middle", defArgs s__law_middle, defBody s__law_middle, defScope s__law_middle, [], []⟩
def dd__law_chosen : He.DefD := ⟨("_law_chosen", none), "_law_chosen", "_law_chosen", defArgs s__law_chosen, defBody s__law_chosen, defScope s__law_chosen, [], []⟩
def dd__law_gain : He.DefD := ⟨("_law_gain", none), "_law_gain", "_law_gain", defArgs s__law_gain, defBody s__law_gain, defScope s__law_gain, [], []⟩
def dd_law : He.DefD := ⟨("law", none), "law", "law", defArgs s_law, defBody s_law, defScope s_law, [], []⟩
def fnl : List He.DefD := [dd_is_whole, dd_are_peaks, dd_middle, dd_are_ghosts, dd_mean, dd_ends, dd_chosen, dd_told_otherwise, dd_gain, dd_gainer, dd_reach, dd_nearest, dd_beaten, dd_unbeaten, dd_distances, dd_two_spots, dd__law_state, dd__law_take, dd__law_pick, dd__law_middle, dd__law_chosen, dd__law_gain, dd_law]
def fal : List He.Fa := [.glo "is_whole", .glo "are_peaks", .glo "middle", .glo "are_ghosts", .glo "mean", .glo "ends", .glo "chosen", .glo "told_otherwise", .glo "gain", .glo "gainer", .glo "reach", .glo "nearest", .glo "beaten", .glo "unbeaten", .glo "distances", .glo "two_spots", .glo "_law_state", .glo "_law_take", .glo "_law_pick", .glo "_law_middle", .glo "_law_chosen", .glo "_law_gain", .glo "law", .int "MOST_SPOT" 1000, .free "abs", .free "all", .free "bool", .free "int", .free "isinstance", .free "len", .free "list", .free "max", .free "min", .free "range", .free "set", .free "sorted", .free "sum", .free "tuple"]
abbrev R : PySem.W.OpenRow := PySem.W.OpenLaw.row PySem.Challenge.rw_votehall_k68_whole_one_axis
abbrev hk : PySem.W.Hook := He.hookD 4 fal fnl
def ob (s : PySem.W.SharedT) : He.AlD := He.obsDG 4 fal fnl (HandSHeadRun.getT s)
theorem ob_eq (s : PySem.W.SharedT) : ob s = hk.obs s.abs := He.obsDG_eq (HandSHeadRun.getT_eq s)
def loose : List Str := ["is_whole", "are_peaks", "middle", "are_ghosts", "mean", "ends", "chosen", "told_otherwise", "gain", "gainer", "reach", "nearest", "beaten", "unbeaten", "distances", "two_spots", "_law_state", "_law_take", "_law_pick", "_law_middle", "_law_chosen", "_law_gain", "MOST_SPOT"]
theorem run (w : World) : HandSHeadRun.RunEq R (PySem.W.view R.prog [26]) hk ob 6000 loose w := by
  intro os
  kernel_rfl
theorem facts {P : Program} {w : World} {K : PySem.W.Frag} {h : Heap} {mg : Str → Option Value} {f : Addr} (X : K.In h) (G : h.Ns mainGlobals mg) (hfa : mg ("law" : Str) = some (.ref f)) (c : He.SaysD fal fnl K) :
    ∃ fd : FuncData, (∀ (s : Shared) (v : Value), BindsTo s fd ⟨[v], []⟩ [("script", v)]) ∧ ∀ base : Heap, K.In base → base.Ns mainGlobals mg → FnOk P w K mg base CX0 5 f fd ["script"] (spLaw K) := by
  obtain ⟨fd_is_whole, F_is_whole⟩ := c.def_ 0 (d := dd_is_whole) rfl
  obtain ⟨fd_are_peaks, F_are_peaks⟩ := c.def_ 1 (d := dd_are_peaks) rfl
  obtain ⟨fd_middle, F_middle⟩ := c.def_ 2 (d := dd_middle) rfl
  obtain ⟨fd_are_ghosts, F_are_ghosts⟩ := c.def_ 3 (d := dd_are_ghosts) rfl
  obtain ⟨fd_mean, F_mean⟩ := c.def_ 4 (d := dd_mean) rfl
  obtain ⟨fd_ends, F_ends⟩ := c.def_ 5 (d := dd_ends) rfl
  obtain ⟨fd_chosen, F_chosen⟩ := c.def_ 6 (d := dd_chosen) rfl
  obtain ⟨fd_told_otherwise, F_told_otherwise⟩ := c.def_ 7 (d := dd_told_otherwise) rfl
  obtain ⟨fd_gain, F_gain⟩ := c.def_ 8 (d := dd_gain) rfl
  obtain ⟨fd_gainer, F_gainer⟩ := c.def_ 9 (d := dd_gainer) rfl
  obtain ⟨fd_reach, F_reach⟩ := c.def_ 10 (d := dd_reach) rfl
  obtain ⟨fd_nearest, F_nearest⟩ := c.def_ 11 (d := dd_nearest) rfl
  obtain ⟨fd_beaten, F_beaten⟩ := c.def_ 12 (d := dd_beaten) rfl
  obtain ⟨fd_unbeaten, F_unbeaten⟩ := c.def_ 13 (d := dd_unbeaten) rfl
  obtain ⟨fd_distances, F_distances⟩ := c.def_ 14 (d := dd_distances) rfl
  obtain ⟨fd_two_spots, F_two_spots⟩ := c.def_ 15 (d := dd_two_spots) rfl
  obtain ⟨fd__law_state, F__law_state⟩ := c.def_ 16 (d := dd__law_state) rfl
  obtain ⟨fd__law_take, F__law_take⟩ := c.def_ 17 (d := dd__law_take) rfl
  obtain ⟨fd__law_pick, F__law_pick⟩ := c.def_ 18 (d := dd__law_pick) rfl
  obtain ⟨fd__law_middle, F__law_middle⟩ := c.def_ 19 (d := dd__law_middle) rfl
  obtain ⟨fd__law_chosen, F__law_chosen⟩ := c.def_ 20 (d := dd__law_chosen) rfl
  obtain ⟨fd__law_gain, F__law_gain⟩ := c.def_ 21 (d := dd__law_gain) rfl
  obtain ⟨fd_law, F_law⟩ := c.def_ 22 (d := dd_law) rfl
  have e := hfa.symm.trans (He.glo_ok X G (c.fact 22 (f := .glo "law") rfl))
  cases e
  let T : Tx K mg := {
    fd_is_whole := fd_is_whole, F_is_whole := F_is_whole, m_is_whole := He.glo_ok X G (c.fact 0 (f := .glo "is_whole") rfl), b_is_whole := FunD.bindsN F_is_whole (fun _ _ _ _ _ _ us hl => match us, hl with | [_, _, _], _ => rfl),
    fd_are_peaks := fd_are_peaks, F_are_peaks := F_are_peaks, m_are_peaks := He.glo_ok X G (c.fact 1 (f := .glo "are_peaks") rfl), b_are_peaks := FunD.bindsN F_are_peaks (fun _ _ _ _ _ _ us hl => match us, hl with | [_], _ => rfl),
    fd_middle := fd_middle, F_middle := F_middle, m_middle := He.glo_ok X G (c.fact 2 (f := .glo "middle") rfl), b_middle := FunD.bindsN F_middle (fun _ _ _ _ _ _ us hl => match us, hl with | [_, _], _ => rfl),
    fd_are_ghosts := fd_are_ghosts, F_are_ghosts := F_are_ghosts, m_are_ghosts := He.glo_ok X G (c.fact 3 (f := .glo "are_ghosts") rfl), b_are_ghosts := FunD.bindsN F_are_ghosts (fun _ _ _ _ _ _ us hl => match us, hl with | [_, _], _ => rfl),
    fd_mean := fd_mean, F_mean := F_mean, m_mean := He.glo_ok X G (c.fact 4 (f := .glo "mean") rfl), b_mean := FunD.bindsN F_mean (fun _ _ _ _ _ _ us hl => match us, hl with | [_], _ => rfl),
    fd_ends := fd_ends, F_ends := F_ends, m_ends := He.glo_ok X G (c.fact 5 (f := .glo "ends") rfl), b_ends := FunD.bindsN F_ends (fun _ _ _ _ _ _ us hl => match us, hl with | [_], _ => rfl),
    fd_chosen := fd_chosen, F_chosen := F_chosen, m_chosen := He.glo_ok X G (c.fact 6 (f := .glo "chosen") rfl), b_chosen := FunD.bindsN F_chosen (fun _ _ _ _ _ _ us hl => match us, hl with | [_, _, _], _ => rfl),
    fd_told_otherwise := fd_told_otherwise, F_told_otherwise := F_told_otherwise, m_told_otherwise := He.glo_ok X G (c.fact 7 (f := .glo "told_otherwise") rfl), b_told_otherwise := FunD.bindsN F_told_otherwise (fun _ _ _ _ _ _ us hl => match us, hl with | [_, _, _], _ => rfl),
    fd_gain := fd_gain, F_gain := F_gain, m_gain := He.glo_ok X G (c.fact 8 (f := .glo "gain") rfl), b_gain := FunD.bindsN F_gain (fun _ _ _ _ _ _ us hl => match us, hl with | [_, _, _, _], _ => rfl),
    fd_gainer := fd_gainer, F_gainer := F_gainer, m_gainer := He.glo_ok X G (c.fact 9 (f := .glo "gainer") rfl), b_gainer := FunD.bindsN F_gainer (fun _ _ _ _ _ _ us hl => match us, hl with | [_, _, _], _ => rfl),
    fd_reach := fd_reach, F_reach := F_reach, m_reach := He.glo_ok X G (c.fact 10 (f := .glo "reach") rfl), b_reach := FunD.bindsN F_reach (fun _ _ _ _ _ _ us hl => match us, hl with | [_, _, _], _ => rfl),
    fd_nearest := fd_nearest, F_nearest := F_nearest, m_nearest := He.glo_ok X G (c.fact 11 (f := .glo "nearest") rfl), b_nearest := FunD.bindsN F_nearest (fun _ _ _ _ _ _ us hl => match us, hl with | [_, _], _ => rfl),
    fd_beaten := fd_beaten, F_beaten := F_beaten, m_beaten := He.glo_ok X G (c.fact 12 (f := .glo "beaten") rfl), b_beaten := FunD.bindsN F_beaten (fun _ _ _ _ _ _ us hl => match us, hl with | [_, _, _], _ => rfl),
    fd_unbeaten := fd_unbeaten, F_unbeaten := F_unbeaten, m_unbeaten := He.glo_ok X G (c.fact 13 (f := .glo "unbeaten") rfl), b_unbeaten := FunD.bindsN F_unbeaten (fun _ _ _ _ _ _ us hl => match us, hl with | [_], _ => rfl),
    fd_distances := fd_distances, F_distances := F_distances, m_distances := He.glo_ok X G (c.fact 14 (f := .glo "distances") rfl), b_distances := FunD.bindsN F_distances (fun _ _ _ _ _ _ us hl => match us, hl with | [_, _], _ => rfl),
    fd_two_spots := fd_two_spots, F_two_spots := F_two_spots, m_two_spots := He.glo_ok X G (c.fact 15 (f := .glo "two_spots") rfl), b_two_spots := FunD.bindsN F_two_spots (fun _ _ _ _ _ _ us hl => match us, hl with | [_], _ => rfl),
    fd__law_state := fd__law_state, F__law_state := F__law_state, m__law_state := He.glo_ok X G (c.fact 16 (f := .glo "_law_state") rfl), b__law_state := FunD.bindsN F__law_state (fun _ _ _ _ _ _ us hl => match us, hl with | [_], _ => rfl),
    fd__law_take := fd__law_take, F__law_take := F__law_take, m__law_take := He.glo_ok X G (c.fact 17 (f := .glo "_law_take") rfl), b__law_take := FunD.bindsN F__law_take (fun _ _ _ _ _ _ us hl => match us, hl with | [_, _], _ => rfl),
    fd__law_pick := fd__law_pick, F__law_pick := F__law_pick, m__law_pick := He.glo_ok X G (c.fact 18 (f := .glo "_law_pick") rfl), b__law_pick := FunD.bindsN F__law_pick (fun _ _ _ _ _ _ us hl => match us, hl with | [_, _], _ => rfl),
    fd__law_middle := fd__law_middle, F__law_middle := F__law_middle, m__law_middle := He.glo_ok X G (c.fact 19 (f := .glo "_law_middle") rfl), b__law_middle := FunD.bindsN F__law_middle (fun _ _ _ _ _ _ us hl => match us, hl with | [_, _], _ => rfl),
    fd__law_chosen := fd__law_chosen, F__law_chosen := F__law_chosen, m__law_chosen := He.glo_ok X G (c.fact 20 (f := .glo "_law_chosen") rfl), b__law_chosen := FunD.bindsN F__law_chosen (fun _ _ _ _ _ _ us hl => match us, hl with | [_, _, _], _ => rfl),
    fd__law_gain := fd__law_gain, F__law_gain := F__law_gain, m__law_gain := He.glo_ok X G (c.fact 21 (f := .glo "_law_gain") rfl), b__law_gain := FunD.bindsN F__law_gain (fun _ _ _ _ _ _ us hl => match us, hl with | [_, _, _, _], _ => rfl),
    fd_law := fd_law, F_law := F_law, m_law := He.glo_ok X G (c.fact 22 (f := .glo "law") rfl), b_law := FunD.bindsN F_law (fun _ _ _ _ _ _ us hl => match us, hl with | [_], _ => rfl),
    i_MOST_SPOT := He.int_ok X G (c.fact 23 (f := .int "MOST_SPOT" 1000) rfl),
    z_abs := He.free_ok X G (c.fact 24 (f := .free "abs") rfl),
    z_all := He.free_ok X G (c.fact 25 (f := .free "all") rfl),
    z_bool := He.free_ok X G (c.fact 26 (f := .free "bool") rfl),
    z_int := He.free_ok X G (c.fact 27 (f := .free "int") rfl),
    z_isinstance := He.free_ok X G (c.fact 28 (f := .free "isinstance") rfl),
    z_len := He.free_ok X G (c.fact 29 (f := .free "len") rfl),
    z_list := He.free_ok X G (c.fact 30 (f := .free "list") rfl),
    z_max := He.free_ok X G (c.fact 31 (f := .free "max") rfl),
    z_min := He.free_ok X G (c.fact 32 (f := .free "min") rfl),
    z_range := He.free_ok X G (c.fact 33 (f := .free "range") rfl),
    z_set := He.free_ok X G (c.fact 34 (f := .free "set") rfl),
    z_sorted := He.free_ok X G (c.fact 35 (f := .free "sorted") rfl),
    z_sum := He.free_ok X G (c.fact 36 (f := .free "sum") rfl),
    z_tuple := He.free_ok X G (c.fact 37 (f := .free "tuple") rfl) }
  have b := FunD.bindsA (ps := ["script"]) F_law fun _ _ _ _ _ _ us hl => match us, hl with | [_], _ => rfl
  exact ⟨fd_law, fun s v => b s [v] rfl, fun base _ _ => ok_law T law_ok⟩
end T68
open PySem PySem.W PySem.Calls PyProof.Rows
set_option maxRecDepth 100000 in
set_option maxHeartbeats 0 in
theorem PySem.Challenge.cw_votehall_k68_whole_one_axis_holds : PySem.Challenge.rw_votehall_k68_whole_one_axis.Holds := by
  w_on; o_law
  refine HandSHeadRun.head_any (r := OpenLaw.row PySem.Challenge.rw_votehall_k68_whole_one_axis) (q := view (OpenLaw.row PySem.Challenge.rw_votehall_k68_whole_one_axis).prog [26]) (H := T68.hk) (ob := T68.ob) (M := 6000) (loose := T68.loose) (d := HandSHeadRun.topDef (OpenLaw.row PySem.Challenge.rw_votehall_k68_whole_one_axis).prog 26) (kwd := []) T68.ob_eq
    (by kernel_rfl) (fun s => by kernel_rfl) T68.run (by kernel_rfl) (by kernel_rfl) (by kernel_rfl) (by rfl) (by first | assumption | decide +kernel) (by decide +kernel) ⟨rfl, rfl, rfl, rfl, rfl, by decide +kernel⟩ ?hw ?hc
  case hw => w_witness2
  case hc =>
    refine L2.walk_ofE (l := PySem.Challenge.rw_votehall_k68_whole_one_axis) (n := 63) (k := 5) (x := "script") (CX := L2.CX0) rfl (by decide) (by kernel_rfl) ⟨rfl, by decide, by decide⟩ ?F (fun _ _ _ _ z => z)
    intro w mg fa h Y G hmg0
    obtain ⟨K, KX, c⟩ := Y
    have hmg : mg ("law" : PySem.Str) = some (.ref fa) := by
      have e : (HandSHeadRun.topDef (OpenLaw.row PySem.Challenge.rw_votehall_k68_whole_one_axis).prog 26).name = ("law" : PySem.Str) := by kernel_rfl
      rw [← e]
      exact hmg0
    obtain ⟨fd, hb, hF⟩ := T68.facts (P := (PySem.Challenge.rw_votehall_k68_whole_one_axis).prog) (w := w) KX G hmg c
    exact ⟨K, fd, Dw.spLaw K, KX, hb, fun H a ns hl _ hS => ⟨a, ns, rfl, hS, hl, fun _ => rfl⟩, hF⟩

