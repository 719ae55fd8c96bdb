import PyProof.Rows.All
import Wide.All
import OpenK.AllK
import Wide.FinOn
import HandS.ForMost
import HandS.ForExc
import HandS.Wide
import HandS.TupAny
import HandS.TupMul
import HandS.IsInst
import HandS.Conv
import HandS.Style
import HandS.Text
import KE.GoesMore
import KE.GoesEnum
import HandS.Iter
import HandS.Rev
import HandS.SortRule
import HandS.Zip
import PySem.Challenge.RW_eitheronce_k02_prime_polynomials
/-! # Y1 -/
set_option Elab.async false
set_option linter.all false
set_option maxRecDepth 100000
set_option maxHeartbeats 4000000
namespace Y
open PySem PySem.Spec L2

/-! ### data, outcomes -/
inductive D where
  | non | bl (b : Bool) | int (i : Int) | str (s : Str) | tup (xs : List D) | lst (xs : List D)
  | obj (c : Str) (ks : List Str) (vs : List D) | deal

/-- an outcome: a value, an exception, no answer, a draw below b -/
inductive R (α : Type) where
  | ok (a : α) | exn (x : D) | stuck | draw (b : Int) (k : Int → R α)
namespace R
def bind {α β : Type} : R α → (α → R β) → R β
  | .ok a, f => f a
  | .exn x, _ => .exn x
  | .stuck, _ => .stuck
  | .draw b k, f => .draw b fun r => (k r).bind f
/-- every way out -/
def all {α : Type} (P : α → Prop) (E : D → Prop) : R α → Prop
  | .ok a => P a
  | .exn x => E x
  | .stuck => False
  | .draw b k => (0 < b ∧ b < 2 ^ 200) ∧ ∀ r, 0 ≤ r → r < b → (k r).all P E
def map {α β : Type} (f : α → β) (t : R α) : R β := t.bind fun a => .ok (f a)
/-- a test that must hold -/
def grd {α : Type} (p : Prop) [Decidable p] (t : R α) : R α := if p then t else .stuck
theorem all_bind {α β : Type} {P : β → Prop} {E : D → Prop} {f : α → R β} : ∀ {t : R α}, (t.bind f).all P E ↔ t.all (fun a => (f a).all P E) E
  | .ok a => Iff.rfl
  | .exn x => Iff.rfl
  | .stuck => Iff.rfl
  | .draw b k => and_congr Iff.rfl (forall_congr' fun r => imp_congr Iff.rfl (imp_congr Iff.rfl (all_bind (t := k r))))
theorem all_imp {α : Type} {P P' : α → Prop} {E E' : D → Prop} (hp : ∀ a, P a → P' a) (he : ∀ x, E x → E' x) : ∀ {t : R α}, t.all P E → t.all P' E'
  | .ok a, h => hp a h
  | .exn x, h => he x h
  | .stuck, h => h
  | .draw b k, h => ⟨h.1, fun r h0 h1 => all_imp hp he (t := k r) (h.2 r h0 h1)⟩
theorem all_grd {α : Type} {P : α → Prop} {E : D → Prop} {p : Prop} [Decidable p] {t : R α} : (grd p t).all P E ↔ p ∧ t.all P E := by
  unfold grd
  by_cases h : p
  · rw [if_pos h]; exact ⟨fun q => ⟨h, q⟩, fun q => q.2⟩
  · rw [if_neg h]; exact ⟨fun q => q.elim, fun q => h q.1⟩
@[simp] theorem bind_ok {α β : Type} (a : α) (f : α → R β) : (R.ok a).bind f = f a := rfl
@[simp] theorem bind_exn {α β : Type} (x : D) (f : α → R β) : (R.exn x).bind f = .exn x := rfl
@[simp] theorem bind_stuck {α β : Type} (f : α → R β) : (R.stuck).bind f = .stuck := rfl
@[simp] theorem bind_draw {α β : Type} (b : Int) (k : Int → R α) (f : α → R β) : (R.draw b k).bind f = .draw b fun r => (k r).bind f := rfl
theorem bind_assoc {α β γ : Type} {f : α → R β} {g : β → R γ} : ∀ {t : R α}, (t.bind f).bind g = t.bind fun a => (f a).bind g
  | .ok a => rfl
  | .exn x => rfl
  | .stuck => rfl
  | .draw b k => congrArg (R.draw b) (funext fun r => bind_assoc (t := k r))
end R

/-! ### how data lies in the abstract heap -/
abbrev DL := Option (Addr × Addr)
def Dl (dl : DL) (b : Addr) : Prop := ∃ a c, dl = some (a, c) ∧ (b = a ∨ b = c)
/-- the deal stands -/
def DealOk (dl : DL) (H : Hp) : Prop := ∀ a c, dl = some (a, c) → a ≠ c ∧ ∃ (cs : List Int) (m : Int), H a = some (.lst [.ref c, .int m]) ∧ H c = some (.lst (cs.map V.int)) ∧ cs.length ≤ 63 ∧ (∀ x ∈ cs, 0 ≤ x) ∧ 0 ≤ m ∧ m < 2147483647
section
variable (K : PySem.W.Frag) (mg : Str → Option Value) (dl : DL) (F : Hp)
mutual
def Rp : D → V → Prop
  | .non, v => v = .non
  | .bl b, v => v = .bl b
  | .int i, v => v = .int i
  | .str s, v => v = .str s
  | .tup ds, v => ∃ a vs, v = .ref a ∧ F a = some (.tup vs) ∧ RpL ds vs
  | .lst ds, v => ∃ a vs, v = .ref a ∧ F a = some (.lst vs) ∧ RpL ds vs
  | .obj c ks ds, v => ∃ a C dx fs, v = .ref a ∧ mg c = some (.ref C) ∧ F a = some (.ins C dx fs) ∧ fs.map (·.1) = ks ∧ RpL ds (fs.map (·.2))
  | .deal, v => ∃ a c, dl = some (a, c) ∧ v = .ref a
def RpL : List D → List V → Prop
  | [], vs => vs = []
  | d :: ds, vs => ∃ v r, vs = v :: r ∧ Rp d v ∧ RpL ds r
end
end

theorem SqT_same {K : PySem.W.Frag} {F F' : Hp} {a : Addr} {vs : List V} (s : Same F F') (h : SqT K F a vs) : SqT K F' a vs := by
  rcases h with (h | ⟨o, h⟩) | h
  · exact .inl (.inl (s _ _ h))
  · exact .inl (.inr ⟨o, s _ _ h⟩)
  · exact .inr h
section
variable {K : PySem.W.Frag} {mg : Str → Option Value} {dl : DL} {F F' : Hp}
mutual
theorem Rp.mono (s : Same F F') : ∀ (d : D) (v : V), Rp mg dl F d v → Rp mg dl F' d v
  | .non, _, h => h
  | .bl _, _, h => h
  | .int _, _, h => h
  | .str _, _, h => h
  | .tup ds, v, h => by
    unfold Rp at h ⊢
    obtain ⟨a, vs, e, q, r⟩ := h
    exact ⟨a, vs, e, s _ _ q, RpL.mono s ds vs r⟩
  | .lst ds, v, h => by
    unfold Rp at h ⊢
    obtain ⟨a, vs, e, q, r⟩ := h
    exact ⟨a, vs, e, s _ _ q, RpL.mono s ds vs r⟩
  | .obj c ks ds, v, h => by
    unfold Rp at h ⊢
    obtain ⟨a, C, dx, fs, e, g, q, k, r⟩ := h
    exact ⟨a, C, dx, fs, e, g, s _ _ q, k, RpL.mono s ds _ r⟩
  | .deal, v, h => by
    unfold Rp at h ⊢
    exact h
theorem RpL.mono (s : Same F F') : ∀ (ds : List D) (vs : List V), RpL mg dl F ds vs → RpL mg dl F' ds vs
  | [], vs, h => by
    unfold RpL at h ⊢
    exact h
  | d :: ds, vs, h => by
    unfold RpL at h ⊢
    obtain ⟨v, r, e, q, t⟩ := h
    exact ⟨v, r, e, Rp.mono s d v q, RpL.mono s ds r t⟩
end
theorem RpL.length : ∀ {ds : List D} {vs : List V}, RpL mg dl F ds vs → vs.length = ds.length
  | [], vs, h => by
    unfold RpL at h
    rw [h]; rfl
  | d :: ds, vs, h => by
    unfold RpL at h
    obtain ⟨v, r, rfl, _, t⟩ := h
    rw [List.length_cons, List.length_cons, RpL.length t]
theorem RpL.nil : RpL mg dl F [] [] := by unfold RpL; rfl
theorem RpL.cons {d : D} {v : V} {ds : List D} {vs : List V} (h : Rp mg dl F d v) (t : RpL mg dl F ds vs) : RpL mg dl F (d :: ds) (v :: vs) := by
  unfold RpL
  exact ⟨v, vs, rfl, h, t⟩
theorem RpL.get : ∀ {ds : List D} {vs : List V} {i : Nat} {d : D}, RpL mg dl F ds vs → ds[i]? = some d → ∃ v, vs[i]? = some v ∧ Rp mg dl F d v
  | [], vs, i, d, h, e => by simp at e
  | d' :: ds, vs, 0, d, h, e => by
    unfold RpL at h
    obtain ⟨v, r, rfl, q, t⟩ := h
    simp at e
    subst e
    exact ⟨v, rfl, q⟩
  | d' :: ds, vs, i + 1, d, h, e => by
    unfold RpL at h
    obtain ⟨v, r, rfl, q, t⟩ := h
    obtain ⟨v', e', q'⟩ := RpL.get (i := i) t (by simpa using e)
    exact ⟨v', by simpa using e', q'⟩
theorem RpL.append : ∀ {ds es : List D} {vs ws : List V}, RpL mg dl F ds vs → RpL mg dl F es ws → RpL mg dl F (ds ++ es) (vs ++ ws)
  | [], es, vs, ws, h, g => by
    unfold RpL at h
    subst h
    exact g
  | d :: ds, es, vs, ws, h, g => by
    unfold RpL at h
    obtain ⟨v, r, rfl, q, t⟩ := h
    exact RpL.cons q (RpL.append t g)
theorem RpL.drop : ∀ {ds : List D} {vs : List V} (n : Nat), RpL mg dl F ds vs → RpL mg dl F (ds.drop n) (vs.drop n)
  | ds, vs, 0, h => h
  | [], vs, n + 1, h => by
    unfold RpL at h
    subst h
    exact RpL.nil
  | d :: ds, vs, n + 1, h => by
    unfold RpL at h
    obtain ⟨v, r, rfl, q, t⟩ := h
    exact RpL.drop n t
theorem RpL.take : ∀ {ds : List D} {vs : List V} (n : Nat), RpL mg dl F ds vs → RpL mg dl F (ds.take n) (vs.take n)
  | ds, vs, 0, h => RpL.nil
  | [], vs, n + 1, h => by
    unfold RpL at h
    subst h
    exact RpL.nil
  | d :: ds, vs, n + 1, h => by
    unfold RpL at h
    obtain ⟨v, r, rfl, q, t⟩ := h
    exact RpL.cons q (RpL.take n t)
theorem RpL.set {d : D} {v : V} (q : Rp mg dl F d v) : ∀ {ds : List D} {vs : List V} (n : Nat), RpL mg dl F ds vs → RpL mg dl F (ds.set n d) (vs.set n v)
  | [], vs, n, h => by
    unfold RpL at h
    subst h
    exact RpL.nil
  | d' :: ds, vs, 0, h => by
    unfold RpL at h
    obtain ⟨v', r, rfl, q', t⟩ := h
    exact RpL.cons q t
  | d' :: ds, vs, n + 1, h => by
    unfold RpL at h
    obtain ⟨v', r, rfl, q', t⟩ := h
    exact RpL.cons q' (RpL.set q n t)
theorem RpL.reverse : ∀ {ds : List D} {vs : List V}, RpL mg dl F ds vs → RpL mg dl F ds.reverse vs.reverse
  | [], vs, h => by
    unfold RpL at h
    subst h
    exact RpL.nil
  | d :: ds, vs, h => by
    unfold RpL at h
    obtain ⟨v, r, rfl, q, t⟩ := h
    rw [List.reverse_cons, List.reverse_cons]
    exact RpL.append (RpL.reverse t) (RpL.cons q RpL.nil)
theorem RpL.ints : ∀ (ns : List Int), RpL mg dl F (ns.map D.int) (ns.map V.int)
  | [] => RpL.nil
  | n :: ns => RpL.cons (by unfold Rp; rfl) (RpL.ints ns)
theorem Rp.tup {ds : List D} {a : Addr} {vs : List V} (h : F a = some (.tup vs)) (r : RpL mg dl F ds vs) : Rp mg dl F (.tup ds) (.ref a) := by
  unfold Rp
  exact ⟨a, vs, rfl, h, r⟩
theorem Rp.lst {ds : List D} {a : Addr} {vs : List V} (h : F a = some (.lst vs)) (r : RpL mg dl F ds vs) : Rp mg dl F (.lst ds) (.ref a) := by
  unfold Rp
  exact ⟨a, vs, rfl, h, r⟩
theorem Rp.int (i : Int) : Rp mg dl F (.int i) (.int i) := by unfold Rp; rfl
theorem Rp.bl (i : Bool) : Rp mg dl F (.bl i) (.bl i) := by unfold Rp; rfl
theorem Rp.str (i : Str) : Rp mg dl F (.str i) (.str i) := by unfold Rp; rfl
theorem Rp.non : Rp mg dl F .non .non := by unfold Rp; rfl
end

/-! ### what a step may do -/
/-- F, H: what is frozen, the heap; a step only lays new things (and turns the deal) -/
structure Ext (dl : DL) (F H F' H' : Hp) : Prop where
  ff : Same F F'
  fh : Same F' H'
  hh : ∀ b o, H b = some o → ¬ Dl dl b → H' b = some o
  fr : ∀ b o, F' b = some o → F b = some o ∨ H b = none
  dk : DealOk dl H'
theorem DealOk.there {dl : DL} {H : Hp} (k : DealOk dl H) {b : Addr} (h : Dl dl b) : H b ≠ none := by
  obtain ⟨a, c, e, q⟩ := h
  obtain ⟨ne, cs, m, h1, h2, _⟩ := k a c e
  rcases q with rfl | rfl
  · rw [h1]; exact fun z => nomatch z
  · rw [h2]; exact fun z => nomatch z
theorem Ext.refl {dl : DL} {F H : Hp} (s : Same F H) (k : DealOk dl H) : Ext dl F H F H := ⟨Same.refl F, s, fun _ _ h _ => h, fun _ _ h => .inl h, k⟩
theorem Ext.trans {dl : DL} {F H F1 H1 F2 H2 : Hp} (a : Ext dl F H F1 H1) (b : Ext dl F1 H1 F2 H2) : Ext dl F H F2 H2 where
  ff := a.ff.trans b.ff
  fh := b.fh
  hh := fun c o h n => b.hh c o (a.hh c o h n) n
  fr := fun c o h => by
    rcases b.fr c o h with q | q
    · exact a.fr c o q
    · right
      cases e : H c with
      | none => rfl
      | some u =>
        exfalso
        by_cases n : Dl dl c
        · exact a.dk.there n q
        · rw [a.hh c u e n] at q; cases q
  dk := b.dk
theorem Ext.dfree {dl : DL} {F H F' H' : Hp} (x : Ext dl F H F' H') (k : DealOk dl H) (df : ∀ b, Dl dl b → F b = none) : ∀ b, Dl dl b → F' b = none := fun b hb => by
  cases e : F' b with
  | none => rfl
  | some o =>
    exfalso
    rcases x.fr b o e with q | q
    · rw [df b hb] at q; cases q
    · exact k.there hb q
theorem DealOk.upd {dl : DL} {H : Hp} {p : Addr} {o : HO} (k : DealOk dl H) (h : ¬ Dl dl p) : DealOk dl (upd H p o) := fun a c e => by
  obtain ⟨ne, cs, m, h1, h2, r⟩ := k a c e
  refine ⟨ne, cs, m, ?_, ?_, r⟩
  · rw [upd_ne (fun z => h ⟨a, c, e, .inl z.symm⟩)]; exact h1
  · rw [upd_ne (fun z => h ⟨a, c, e, .inr z.symm⟩)]; exact h2
theorem DealOk.nof {dl : DL} {H : Hp} (k : DealOk dl H) {p : Addr} (h : H p = none) : ¬ Dl dl p := fun d => k.there d h
theorem same_upd {H : Hp} {p : Addr} {o : HO} (h : H p = none) : Same H (upd H p o) := fun b x e => by
  rw [upd_ne (ne_of_none e h)]
  exact e
theorem same_none {F H : Hp} (s : Same F H) {p : Addr} (h : H p = none) : F p = none := s.free h
/-- a new object that stands still from now on -/
theorem Ext.lay {dl : DL} {F H : Hp} (s : Same F H) (k : DealOk dl H) {p : Addr} (h : H p = none) (o : HO) : Ext dl F H (upd F p o) (upd H p o) where
  ff := same_upd (same_none s h)
  fh := fun b x e => by
    by_cases q : b = p
    · subst q; rw [upd_same] at e ⊢; exact e
    · rw [upd_ne q] at e ⊢; exact s b x e
  hh := fun b x e _ => same_upd h b x e
  fr := fun b x e => by
    by_cases q : b = p
    · subst q; exact .inr h
    · rw [upd_ne q] at e; exact .inl e
  dk := k.upd (k.nof h)
/-- a new object of one's own -/
theorem Ext.own {dl : DL} {F H : Hp} (s : Same F H) (k : DealOk dl H) {p : Addr} (h : H p = none) (o : HO) : Ext dl F H F (upd H p o) where
  ff := Same.refl F
  fh := s.trans (same_upd h)
  hh := fun b x e _ => same_upd h b x e
  fr := fun b x e => .inl e
  dk := k.upd (k.nof h)

/-- what is known of the text: its written part, its global names -/
structure Kx where
  K : PySem.W.Frag
  mg : Str → Option Value
abbrev _root_.L2.Cx.kx (X : Cx) : Kx := ⟨X.K, X.mg⟩
/-! ### the frame -/
/-- a slot: unknown, a datum that stands still, a list of one's own -/
inductive Sl where
  | no | sh (d : D) | ow (ds : List D)
abbrev Rho := List Sl
/-- a body's base: the deal, what is frozen and the heap at its start, what is wanted of an exception -/
structure Bx where
  dl : DL
  F : Hp
  H : Hp
  W : WX
/-- an address of one's own -/
def Own (B : Bx) (F : Hp) (a : Addr) : Prop := F a = none ∧ B.H a = none ∧ ¬ Dl B.dl a
section
variable (Z : Kx) (B : Bx) (F H : Hp)
abbrev RpX (d : D) (v : V) : Prop := Rp Z.mg B.dl F d v
abbrev RpLX (ds : List D) (vs : List V) : Prop := RpL Z.mg B.dl F ds vs
/-- data to be read now: it stands still, or it is a list of one's own -/
def RpB (d : D) (v : V) : Prop := RpX Z B F d v ∨ ∃ ds a vs, d = .lst ds ∧ v = .ref a ∧ ¬ Dl B.dl a ∧ H a = some (.lst vs) ∧ RpLX Z B F ds vs
def SlOk : Sl → Option (Option V) → Prop
  | .no, _ => True
  | .sh d, o => ∃ v, o = some (some v) ∧ RpX Z B F d v
  | .ow ds, o => ∃ a vs, o = some (some (.ref a)) ∧ Own B F a ∧ H a = some (.lst vs) ∧ RpLX Z B F ds vs
structure Ok (σ : St) (ρ : Rho) : Prop where
  ext : Ext B.dl B.F B.H F H
  df : ∀ b, Dl B.dl b → F b = none
  dk0 : DealOk B.dl B.H
  len : σ.length = ρ.length
  sl : ∀ (i : Nat) (s : Sl), ρ[i]? = some s → SlOk Z B F H s σ[i]?
  inj : ∀ (i j : Nat) (ds es : List D) (a : Addr), i ≠ j → ρ[i]? = some (.ow ds) → ρ[j]? = some (.ow es) → σ[i]? = some (some (.ref a)) → σ[j]? ≠ some (some (.ref a))
end
section
variable {Z : Kx} {B : Bx} {F H F' H' : Hp} {σ : St} {ρ : Rho}
theorem SlOk.step {s : Sl} {o : Option (Option V)} (k : DealOk B.dl H) (x : Ext B.dl F H F' H') (h : SlOk Z B F H s o) : SlOk Z B F' H' s o := by
  cases s with
  | no => trivial
  | sh d =>
    obtain ⟨v, e, r⟩ := h
    exact ⟨v, e, Rp.mono x.ff _ _ r⟩
  | ow ds =>
    obtain ⟨a, vs, e, ⟨o1, o2, o3⟩, q, r⟩ := h
    refine ⟨a, vs, e, ⟨?_, o2, o3⟩, x.hh _ _ q o3, RpL.mono x.ff _ _ r⟩
    cases z : F' a with
    | none => rfl
    | some u =>
      exfalso
      rcases x.fr a u z with y | y
      · rw [o1] at y; cases y
      · rw [q] at y; cases y
theorem Ok.step (k : Ok Z B F H σ ρ) (x : Ext B.dl F H F' H') : Ok Z B F' H' σ ρ :=
  ⟨k.ext.trans x, x.dfree k.ext.dk k.df, k.dk0, k.len, fun i s e => (k.sl i s e).step k.ext.dk x, k.inj⟩
theorem Ok.fh (k : Ok Z B F H σ ρ) : Same F H := k.ext.fh
theorem Ok.dk (k : Ok Z B F H σ ρ) : DealOk B.dl H := k.ext.dk
theorem RpB.of {d : D} {v : V} (h : RpX Z B F d v) : RpB Z B F H d v := .inl h
theorem RpB.step {d : D} {v : V} (x : Ext B.dl F H F' H') (h : RpB Z B F H d v) : RpB Z B F' H' d v := by
  rcases h with h | ⟨ds, a, vs, e1, e2, n, q, r⟩
  · exact .inl (Rp.mono x.ff _ _ h)
  · exact .inr ⟨ds, a, vs, e1, e2, n, x.hh _ _ q n, RpL.mono x.ff _ _ r⟩
/-- a list that may be read -/
theorem RpB.lst {ds : List D} {v : V} (s : Same F H) (h : RpB Z B F H (.lst ds) v) : ∃ a vs, v = .ref a ∧ H a = some (.lst vs) ∧ RpLX Z B F ds vs := by
  rcases h with h | ⟨ds', a, vs, e1, e2, n, q, r⟩
  · unfold RpX Rp at h
    obtain ⟨a, vs, e, q, r⟩ := h
    exact ⟨a, vs, e, s _ _ q, r⟩
  · cases e1
    exact ⟨a, vs, e2, q, r⟩
theorem RpB.tup {ds : List D} {v : V} (s : Same F H) (h : RpB Z B F H (.tup ds) v) : ∃ a vs, v = .ref a ∧ H a = some (.tup vs) ∧ RpLX Z B F ds vs := by
  rcases h with h | ⟨ds', a, vs, e1, e2, n, q, r⟩
  · unfold RpX Rp at h
    obtain ⟨a, vs, e, q, r⟩ := h
    exact ⟨a, vs, e, s _ _ q, r⟩
  · cases e1
theorem RpB.int {i : Int} {v : V} (h : RpB Z B F H (.int i) v) : v = .int i := by
  rcases h with h | ⟨ds', a, vs, e1, e2, n, q, r⟩
  · unfold RpX Rp at h
    exact h
  · cases e1
theorem RpB.bl {i : Bool} {v : V} (h : RpB Z B F H (.bl i) v) : v = .bl i := by
  rcases h with h | ⟨ds', a, vs, e1, e2, n, q, r⟩
  · unfold RpX Rp at h
    exact h
  · cases e1
theorem RpB.str {i : Str} {v : V} (h : RpB Z B F H (.str i) v) : v = .str i := by
  rcases h with h | ⟨ds', a, vs, e1, e2, n, q, r⟩
  · unfold RpX Rp at h
    exact h
  · cases e1
theorem RpB.non {v : V} (h : RpB Z B F H .non v) : v = .non := by
  rcases h with h | ⟨ds', a, vs, e1, e2, n, q, r⟩
  · unfold RpX Rp at h
    exact h
  · cases e1
end
end Y
/-! # Y2 -/
set_option Elab.async false
set_option linter.all false
set_option maxRecDepth 100000
set_option maxHeartbeats 4000000
namespace Y
open PySem PySem.Spec L2

/-! ### readings by data -/
section
variable (Z : Kx) (B : Bx)
/-- where an exception lies -/
def Ex (F : Hp) (x : D) (c : Value) (o : Option Addr) : Prop := match x with
  | .obj n ks ds => ∃ C, Z.mg n = some (.ref C) ∧ c = .ref C ∧ ∃ dd fs, o = some dd ∧ F dd = some (.xd fs) ∧ fs.map (·.1) = ks ∧ RpL Z.mg B.dl F ds (fs.map (·.2))
  | _ => False
def XpE (F H : Hp) (σ : L2.St) : D → Prop := fun x => ∀ F' H' c o, Ext B.dl F H F' H' → Ex Z B F' x c o → B.W c o σ H'
def PE1 (F H : Hp) (Q : VK) : D → Prop := fun d => ∀ F' H' v, Ext B.dl F H F' H' → RpX Z B F' d v → Q v H'
def PB1 (F H : Hp) (Q : VK) : D → Prop := fun d => ∀ F' H' v, Ext B.dl F H F' H' → RpB Z B F' H' d v → Q v H'
def PO1 (F H : Hp) (Q : VK) : List D → Prop := fun ds => ∀ F' H' a vs, Ext B.dl F H F' H' → F' a = none → H a = none → H' a = some (.lst vs) → RpLX Z B F' ds vs → Q (.ref a) H'
def PA1 (F H : Hp) (Q : List V → Hp → Prop) : List D → Prop := fun ds => ∀ F' H' vs, Ext B.dl F H F' H' → RpLX Z B F' ds vs → Q vs H'
def PT1 (F H : Hp) (Q : Bool → Hp → Prop) : Bool → Prop := fun b => ∀ F' H', Ext B.dl F H F' H' → Q b H'
/-- a value that stands still -/
def yE (m : Rho → R D) : TE := fun σ H Q => ∃ F ρ, Ok Z B F H σ ρ ∧ (m ρ).all (PE1 Z B F H Q) (XpE Z B F H σ)
/-- a value to be read now -/
def yB (m : Rho → R D) : TE := fun σ H Q => ∃ F ρ, Ok Z B F H σ ρ ∧ (m ρ).all (PB1 Z B F H Q) (XpE Z B F H σ)
/-- a new list of one's own -/
def yO (m : Rho → R (List D)) : TE := fun σ H Q => ∃ F ρ, Ok Z B F H σ ρ ∧ (m ρ).all (PO1 Z B F H Q) (XpE Z B F H σ)
def yA (m : Rho → R (List D)) : TA := fun σ H Q => ∃ F ρ, Ok Z B F H σ ρ ∧ (m ρ).all (PA1 Z B F H Q) (XpE Z B F H σ)
def yT (m : Rho → R Bool) : TT := fun σ H Q => ∃ F ρ, Ok Z B F H σ ρ ∧ (m ρ).all (PT1 B F H Q) (XpE Z B F H σ)
end
section
variable {X : Cx} {e : Expr}
theorem pe_imp {t t' : TE} (h : PE X e t) (i : ∀ σ H Q, t' σ H Q → t σ H Q) : PE X e t' := ⟨fun pins s σ H Q I q => h.run pins s σ H Q I (i σ H Q q)⟩
theorem pt_imp {t t' : TT} (h : PT X e t) (i : ∀ σ H Q, t' σ H Q → t σ H Q) : PT X e t' := ⟨fun pins s σ H Q I q => h.run pins s σ H Q I (i σ H Q q)⟩
theorem pw_imp {t t' : TT} (h : PW X e t) (i : ∀ σ H Q, t' σ H Q → t σ H Q) : PW X e t' := ⟨fun wh pins s σ H Q I q => h.run wh pins s σ H Q I (i σ H Q q)⟩
theorem pa_imp {es : List Expr} {t t' : TA} (h : PA X es t) (i : ∀ σ H Q, t' σ H Q → t σ H Q) : PA X es t' := ⟨fun pos pins s σ H Q I q => h.run pos pins s σ H Q I (i σ H Q q)⟩
theorem ps_imp {st : Stmt} {t t' : TS} (h : PS X st t) (i : ∀ D σ H, t' D σ H → t D σ H) : PS X st t' := ⟨fun pins s σ H D I q => h.run pins s σ H D I (i D σ H q)⟩
theorem pss_imp {st : List Stmt} {t t' : TS} (h : PSs X st t) (i : ∀ D σ H, t' D σ H → t D σ H) : PSs X st t' := ⟨fun pins s σ H D I q => h.run pins s σ H D I (i D σ H q)⟩
theorem pi_imp {tg : Expr} {t t' : TI} (h : PI X tg e t) (i : ∀ σ H Q, t' σ H Q → t σ H Q) : PI X tg e t' := ⟨fun pins s σ H Q I q => h.run pins s σ H Q I (i σ H Q q)⟩
theorem pe_alt {t t' : TE} (h : PE X e t) (h' : PE X e t') : PE X e (fun σ H Q => t σ H Q ∨ t' σ H Q) := ⟨fun pins s σ H Q I q => q.elim (h.run pins s σ H Q I) (h'.run pins s σ H Q I)⟩
theorem pi_alt {tg : Expr} {t t' : TI} (h : PI X tg e t) (h' : PI X tg e t') : PI X tg e (fun σ H Q => t σ H Q ∨ t' σ H Q) := ⟨fun pins s σ H Q I q => q.elim (h.run pins s σ H Q I) (h'.run pins s σ H Q I)⟩
theorem opR_or {f : Value → Value → Sem Value} {r r' : R2} (h : OpR X f r) (h' : OpR X f r') : OpR X f (fun x y H Q => r x y H Q ∨ r' x y H Q) := fun pins s σ H x y v u Q I rx ry q => q.elim (h pins s σ H x y v u Q I rx ry) (h' pins s σ H x y v u Q I rx ry)
theorem ixR_or {r r' : R2} (h : IxR X r) (h' : IxR X r') : IxR X (fun x y H Q => r x y H Q ∨ r' x y H Q) := h.or h'
theorem callR_or {f : Value} {r r' : List V → Hp → VK → Prop} (h : CallR X f r) (h' : CallR X f r') : CallR X f (fun xs H Q => r xs H Q ∨ r' xs H Q) := fun pins s σ H xs us Q I rx q => q.elim (h pins s σ H xs us Q I rx) (h' pins s σ H xs us Q I rx)
end
section
variable {Z : Kx} {B : Bx} {F H F' H' : Hp} {σ : L2.St} {Q : VK}
theorem XpE.step {x : D} (h : XpE Z B F H σ x) (e : Ext B.dl F H F' H') : XpE Z B F' H' σ x := fun F2 H2 c o e2 q => h F2 H2 c o (e.trans e2) q
theorem PE1.step {d : D} (h : PE1 Z B F H Q d) (e : Ext B.dl F H F' H') : PE1 Z B F' H' Q d := fun F2 H2 v e2 q => h F2 H2 v (e.trans e2) q
theorem PB1.step {d : D} (h : PB1 Z B F H Q d) (e : Ext B.dl F H F' H') : PB1 Z B F' H' Q d := fun F2 H2 v e2 q => h F2 H2 v (e.trans e2) q
theorem PO1.step {d : List D} (h : PO1 Z B F H Q d) (e : Ext B.dl F H F' H') : PO1 Z B F' H' Q d := fun F2 H2 a vs e2 n1 n2 q r => h F2 H2 a vs (e.trans e2) n1 (by
  cases z : H a with
  | none => rfl
  | some o =>
    exfalso
    by_cases n : Dl B.dl a
    · exact e.dk.there n n2
    · rw [e.hh a o z n] at n2; cases n2) q r
theorem PA1.step {Q : List V → Hp → Prop} {d : List D} (h : PA1 Z B F H Q d) (e : Ext B.dl F H F' H') : PA1 Z B F' H' Q d := fun F2 H2 v e2 q => h F2 H2 v (e.trans e2) q
theorem PT1.step {Q : Bool → Hp → Prop} {d : Bool} (h : PT1 B F H Q d) (e : Ext B.dl F H F' H') : PT1 B F' H' Q d := fun F2 H2 e2 => h F2 H2 (e.trans e2)
/-- one part, then the rest -/
theorem seqE {m : Rho → R D} {ρ : Rho} {α : Type} {g : D → R α} {P : α → Prop} (ok : Ok Z B F H σ ρ) (h : ((m ρ).bind g).all P (XpE Z B F H σ))
    (k : ∀ d F' H' v, Ext B.dl F H F' H' → RpX Z B F' d v → (g d).all P (XpE Z B F' H' σ) → Q v H') : yE Z B m σ H Q :=
  ⟨F, ρ, ok, R.all_imp (fun d q F' H' v e r => k d F' H' v e r (R.all_imp (fun _ z => z) (fun x z => z.step e) q)) (fun _ z => z) (R.all_bind.mp h)⟩
theorem seqB {m : Rho → R D} {ρ : Rho} {α : Type} {g : D → R α} {P : α → Prop} (ok : Ok Z B F H σ ρ) (h : ((m ρ).bind g).all P (XpE Z B F H σ))
    (k : ∀ d F' H' v, Ext B.dl F H F' H' → RpB Z B F' H' d v → (g d).all P (XpE Z B F' H' σ) → Q v H') : yB Z B m σ H Q :=
  ⟨F, ρ, ok, R.all_imp (fun d q F' H' v e r => k d F' H' v e r (R.all_imp (fun _ z => z) (fun x z => z.step e) q)) (fun _ z => z) (R.all_bind.mp h)⟩
theorem seqA {Q : List V → Hp → Prop} {m : Rho → R (List D)} {ρ : Rho} {α : Type} {g : List D → R α} {P : α → Prop} (ok : Ok Z B F H σ ρ) (h : ((m ρ).bind g).all P (XpE Z B F H σ))
    (k : ∀ d F' H' v, Ext B.dl F H F' H' → RpLX Z B F' d v → (g d).all P (XpE Z B F' H' σ) → Q v H') : yA Z B m σ H Q :=
  ⟨F, ρ, ok, R.all_imp (fun d q F' H' v e r => k d F' H' v e r (R.all_imp (fun _ z => z) (fun x z => z.step e) q)) (fun _ z => z) (R.all_bind.mp h)⟩
theorem seqT {Q : Bool → Hp → Prop} {m : Rho → R Bool} {ρ : Rho} {α : Type} {g : Bool → R α} {P : α → Prop} (ok : Ok Z B F H σ ρ) (h : ((m ρ).bind g).all P (XpE Z B F H σ))
    (k : ∀ d F' H', Ext B.dl F H F' H' → (g d).all P (XpE Z B F' H' σ) → Q d H') : yT Z B m σ H Q :=
  ⟨F, ρ, ok, R.all_imp (fun d q F' H' e => k d F' H' e (R.all_imp (fun _ z => z) (fun x z => z.step e) q)) (fun _ z => z) (R.all_bind.mp h)⟩
end

/-! ### expressions -/
def mC (d : D) : Rho → R D := fun _ => .ok d
def mVar (i : Nat) : Rho → R D := fun ρ => match ρ[i]? with
  | some (.sh d) => .ok d
  | _ => .stuck
def mVarB (i : Nat) : Rho → R D := fun ρ => match ρ[i]? with
  | some (.sh d) => .ok d
  | some (.ow ds) => .ok (.lst ds)
  | _ => .stuck
def mBin (f : D → D → R D) (a b : Rho → R D) : Rho → R D := fun ρ => (a ρ).bind fun x => (b ρ).bind fun y => f x y
def mUn (f : D → R D) (a : Rho → R D) : Rho → R D := fun ρ => (a ρ).bind f
def mNil : Rho → R (List D) := fun _ => .ok []
def mCons (a : Rho → R D) (r : Rho → R (List D)) : Rho → R (List D) := fun ρ => (a ρ).bind fun x => (r ρ).bind fun xs => .ok (x :: xs)
def mTup (r : Rho → R (List D)) : Rho → R D := fun ρ => (r ρ).bind fun xs => R.grd (xs.length ≤ 16777216) (.ok (.tup xs))
def mLst (r : Rho → R (List D)) : Rho → R (List D) := fun ρ => (r ρ).bind fun xs => R.grd (xs.length ≤ 16777216) (.ok xs)
def mFrz (r : Rho → R (List D)) : Rho → R D := fun ρ => (r ρ).bind fun xs => .ok (.lst xs)
theorem szl : sizeLine = 16777216 := by rw [sizeLine_eq]
section
variable {X : Cx} {B : Bx} {e a b : Expr} {pos : Pos} {m ma mb : Rho → R D}
theorem ce_const {t : TE} {d : D} (v : V) (h : PE X e t) (ht : ∀ σ H Q, Q v H → t σ H Q) (hr : ∀ F, RpX X.kx B F d v) : PE X e (yE X.kx B (mC d)) := pe_imp h fun σ H Q q => by
  obtain ⟨F, ρ, ok, q⟩ := q
  exact ht σ H Q (q F H v (.refl ok.fh ok.dk) (hr F))
theorem ce_int {i : Int} {j p} : PE X (.Constant (.int i) j p) (yE X.kx B (mC (.int i))) := ce_const (.int i) pe_int (fun _ _ _ q => q) fun _ => Rp.int i
theorem ce_bl {i : Bool} {j p} : PE X (.Constant (.bool i) j p) (yE X.kx B (mC (.bl i))) := ce_const (.bl i) pe_bl (fun _ _ _ q => q) fun _ => Rp.bl i
theorem ce_str {i : Str} {j p} : PE X (.Constant (.str i) j p) (yE X.kx B (mC (.str i))) := ce_const (.str i) pe_str (fun _ _ _ q => q) fun _ => Rp.str i
theorem ce_non {j p} : PE X (.Constant .none j p) (yE X.kx B (mC .non)) := ce_const .non pe_non (fun _ _ _ q => q) fun _ => Rp.non
theorem ce_v (i : Nat) {x : Str} {p : Pos} (hN : X.N[i]? = some x := by rfl) (hv : Vis X.env.scope x := by first | exact Or.inl rfl | exact Or.inr (Or.inl rfl) | exact Or.inr (Or.inr rfl)) (hd : (x == ("__debug__" : Str)) = false := by decide)
    (hcd : (x == ("__classdict__" : Str)) = false := by decide) : PE X (.Name x p) (yE X.kx B (mVar i)) := pe_imp (pe_var hN hv hd hcd) fun σ H Q q => by
  obtain ⟨F, ρ, ok, q⟩ := q
  unfold mVar at q
  split at q
  · rename_i d e
    obtain ⟨v, e1, r⟩ := ok.sl i _ e
    exact ⟨v, e1, q F H v (.refl ok.fh ok.dk) r⟩
  · exact q.elim
theorem cb_v (i : Nat) {x : Str} {p : Pos} (hN : X.N[i]? = some x := by rfl) (hv : Vis X.env.scope x := by first | exact Or.inl rfl | exact Or.inr (Or.inl rfl) | exact Or.inr (Or.inr rfl)) (hd : (x == ("__debug__" : Str)) = false := by decide)
    (hcd : (x == ("__classdict__" : Str)) = false := by decide) : PE X (.Name x p) (yB X.kx B (mVarB i)) := pe_imp (pe_var hN hv hd hcd) fun σ H Q q => by
  obtain ⟨F, ρ, ok, q⟩ := q
  unfold mVarB at q
  split at q
  · rename_i d e
    obtain ⟨v, e1, r⟩ := ok.sl i _ e
    exact ⟨v, e1, q F H v (.refl ok.fh ok.dk) (.inl r)⟩
  · rename_i ds e
    obtain ⟨a, vs, e1, ⟨_, _, n⟩, h2, r⟩ := ok.sl i _ e
    exact ⟨.ref a, e1, q F H (.ref a) (.refl ok.fh ok.dk) (.inr ⟨ds, a, vs, rfl, rfl, n, h2, r⟩)⟩
  · exact q.elim
/-- what stands still may be read -/
theorem cb (h : PE X e (yE X.kx B m)) : PE X e (yB X.kx B m) := pe_imp h fun σ H Q ⟨F, ρ, ok, q⟩ => ⟨F, ρ, ok, R.all_imp (fun d z F' H' v e r => z F' H' v e (.inl r)) (fun _ z => z) q⟩
/-- a list of one's own is left to stand still -/
theorem ce_frz {m : Rho → R (List D)} (h : PE X e (yO X.kx B m)) : PE X e (yE X.kx B (mFrz m)) := pe_imp h fun σ H Q ⟨F, ρ, ok, q⟩ => by
  refine ⟨F, ρ, ok, R.all_imp (fun ds z => ?_) (fun _ z => z) (R.all_bind.mp q)⟩
  intro F' H' a vs e n1 n2 h1 r
  refine z (upd F' a (.lst vs)) H' (.ref a) ?_ ?_
  · refine ⟨e.ff.trans (same_upd n1), fun b o w => ?_, e.hh, fun b o w => ?_, e.dk⟩
    · by_cases q : b = a
      · subst q; rw [upd_same] at w; rw [← w]; exact h1
      · rw [upd_ne q] at w; exact e.fh b o w
    · by_cases q : b = a
      · subst q; exact .inr n2
      · rw [upd_ne q] at w; exact e.fr b o w
  · exact Rp.lst upd_same (RpL.mono (same_upd n1) _ _ r)

/-! ### operators -/
/-- what an operator gives, by data -/
def OpD (Z : Kx) (B : Bx) (r : R2) (f : D → D → R D) : Prop := ∀ (x y : D) (v1 v2 : V) (F H : Hp) (Q : VK) (E : D → Prop), Same F H → DealOk B.dl H → RpB Z B F H x v1 → RpB Z B F H y v2 → (f x y).all (PE1 Z B F H Q) E → r v1 v2 H Q
theorem read2 {r : R2} {f : D → D → R D} {Q : VK} {H : Hp} {σ : L2.St} (hf : OpD X.kx B r f) (q : yE X.kx B (mBin f ma mb) σ H Q) : tOp r (yB X.kx B ma) (yB X.kx B mb) σ H Q := by
  obtain ⟨F, ρ, ok, q⟩ := q
  refine seqB ok q fun x F1 H1 v1 e1 r1 q1 => ?_
  refine seqB (ok.step e1) q1 fun y F2 H2 v2 e2 r2 q2 => ?_
  have k := (ok.step e1).step e2
  exact hf x y v1 v2 F2 H2 Q _ k.fh k.dk (r1.step e2) r2 (R.all_imp (fun _ z => (z.step e1).step e2) (fun _ z => z) q2)
theorem ce_op {op : Operator} {r : R2} {f : D → D → R D} (ho : OpR X (binaryOp op) r) (hf : OpD X.kx B r f) (ha : PE X a (yB X.kx B ma)) (hb : PE X b (yB X.kx B mb)) : PE X (.BinOp a op b pos) (yE X.kx B (mBin f ma mb)) :=
  pe_imp (pe_op ho ha hb) fun _ _ _ q => read2 hf q
theorem ce_cmp {op : CmpOp} {r : R2} {f : D → D → R D} (ho : OpR X (compareOp op) r) (hf : OpD X.kx B r f) (ha : PE X a (yB X.kx B ma)) (hb : PE X b (yB X.kx B mb)) (hm : behindInMarks op b = false) : PE X (.Compare a [op] [b] pos) (yE X.kx B (mBin f ma mb)) :=
  pe_imp (pe_cmpR ho ha hb hm) fun _ _ _ q => read2 hf q
theorem ce_ixg {r : R2} {f : D → D → R D} (ho : IxR X r) (hf : OpD X.kx B r f) (ha : PE X a (yB X.kx B ma)) (hb : PE X b (yB X.kx B mb)) (hs : PlainIx b) : PE X (.Subscript a b pos) (yE X.kx B (mBin f ma mb)) :=
  pe_imp (pe_ix ho ha hb hs) fun _ _ _ q => read2 hf q
/-! arguments, displays -/
theorem ca_nil : PA X [] (yA X.kx B mNil) := pa_imp pa_nil fun σ H Q ⟨F, ρ, ok, q⟩ => q F H [] (.refl ok.fh ok.dk) RpL.nil
theorem ca_cons {es : List Expr} {mr : Rho → R (List D)} (ha : PE X a (yE X.kx B ma)) (hr : PA X es (yA X.kx B mr)) (hs : starEach (a :: es) X.env = (false, eval a X.env) :: starEach es X.env := by rfl) : PA X (a :: es) (yA X.kx B (mCons ma mr)) :=
  pa_imp (pa_cons ha hr hs) fun σ H Q ⟨F, ρ, ok, q⟩ => by
    refine seqE ok q fun x F1 H1 v1 e1 r1 q1 => ?_
    refine seqA (ok.step e1) q1 fun xs F2 H2 vs e2 r2 q2 => ?_
    exact q2 F2 H2 (v1 :: vs) (e1.trans e2) (RpL.cons (Rp.mono e2.ff _ _ r1) r2)
theorem ce_tup {es : List Expr} {k : Nat} {mr : Rho → R (List D)} (h : PA X es (yA X.kx B mr)) : PE X (.Tuple es k pos) (yE X.kx B (mTup mr)) := pe_imp (pe_tup h) fun σ H Q ⟨F, ρ, ok, q⟩ => by
  refine seqA ok q fun xs F1 H1 vs e1 r1 q1 => ?_
  obtain ⟨hl, q1⟩ := R.all_grd.mp q1
  have k := ok.step e1
  refine ⟨by rw [RpL.length r1, szl]; exact hl, fun p hp => ?_⟩
  exact q1 _ _ _ (e1.trans (.lay k.fh k.dk hp _)) (Rp.tup upd_same (RpL.mono (same_upd (same_none k.fh hp)) _ _ r1))
theorem co_lst {es : List Expr} {mr : Rho → R (List D)} (h : PA X es (yA X.kx B mr)) : PE X (.List es pos) (yO X.kx B (mLst mr)) := pe_imp (pe_lst h) fun σ H Q ⟨F, ρ, ok, q⟩ => by
  refine seqA ok q fun xs F1 H1 vs e1 r1 q1 => ?_
  obtain ⟨hl, q1⟩ := R.all_grd.mp q1
  have k := ok.step e1
  refine ⟨by rw [RpL.length r1, szl]; exact hl, fun p hp => ?_⟩
  refine q1 _ _ p vs (e1.trans (.own k.fh k.dk hp _)) (same_none k.fh hp) ?_ upd_same r1
  cases z : H p with
  | none => rfl
  | some o =>
    exfalso
    by_cases n : Dl B.dl p
    · exact k.dk.there n hp
    · rw [e1.hh p o z n] at hp; cases hp
end
end Y
/-! # Y3 -/
set_option Elab.async false
set_option linter.all false
set_option maxRecDepth 100000
set_option maxHeartbeats 4000000
namespace Y
open PySem PySem.Spec L2

/-! ### statements -/
inductive Out where
  | next (ρ : Rho) | ret (d : D) | brk (ρ : Rho) | cont (ρ : Rho) | exc (x : D) (ρ : Rho)
namespace R
/-- with a way out for exceptions -/
def bx {α β : Type} (h : D → R β) (f : α → R β) : R α → R β
  | .ok a => f a
  | .exn x => h x
  | .stuck => .stuck
  | .draw b k => .draw b fun r => (k r).bx h f
theorem all_bx {α β : Type} {P : β → Prop} {E : D → Prop} {h : D → R β} {f : α → R β} : ∀ {t : R α}, (t.bx h f).all P E ↔ t.all (fun a => (f a).all P E) (fun x => (h x).all P E)
  | .ok a => Iff.rfl
  | .exn x => Iff.rfl
  | .stuck => Iff.rfl
  | .draw b k => and_congr Iff.rfl (forall_congr' fun r => imp_congr Iff.rfl (imp_congr Iff.rfl (all_bx (t := k r))))
@[simp] theorem bx_ok {α β : Type} (h : D → R β) (a : α) (f : α → R β) : (R.ok a).bx h f = f a := rfl
@[simp] theorem bx_exn {α β : Type} (h : D → R β) (x : D) (f : α → R β) : (R.exn x).bx h f = h x := rfl
@[simp] theorem bx_stuck {α β : Type} (h : D → R β) (f : α → R β) : (R.stuck).bx h f = .stuck := rfl
@[simp] theorem bx_draw {α β : Type} (h : D → R β) (b : Int) (k : Int → R α) (f : α → R β) : (R.draw b k).bx h f = .draw b fun r => (k r).bx h f := rfl
/-- an answer on every way -/
def good {α : Type} (t : R α) : Prop := t.all (fun _ => True) (fun _ => True)
theorem good_of {α : Type} {P : α → Prop} {E : D → Prop} {t : R α} (h : t.all P E) : t.good := all_imp (fun _ _ => trivial) (fun _ _ => trivial) h
end R
section
variable (Z : Kx) (B : Bx)
def OutOk (F0 : Hp) (N : Ends) : Out → Prop
  | .next ρ => ∀ F' H' σ', Same F0 F' → Ok Z B F' H' σ' ρ → N.nx σ' H'
  | .brk ρ => ∀ F' H' σ', Same F0 F' → Ok Z B F' H' σ' ρ → N.bk σ' H'
  | .cont ρ => ∀ F' H' σ', Same F0 F' → Ok Z B F' H' σ' ρ → N.ct σ' H'
  | .ret d => ∀ F' H' v, Ext B.dl B.F B.H F' H' → RpX Z B F' d v → N.rt v H'
  | .exc x ρ => ∀ F' H' σ' c o, Same F0 F' → Ok Z B F' H' σ' ρ → Ex Z B F' x c o → B.W c o σ' H'
def yS (m : Rho → R Out) : TS := fun N σ H => ∃ F ρ, Ok Z B F H σ ρ ∧ (m ρ).all (OutOk Z B F N) (fun _ => False)
end
theorem OutOk.mono {Z : Kx} {B : Bx} {F0 F1 : Hp} {N : Ends} (s : Same F0 F1) : ∀ {o : Out}, OutOk Z B F0 N o → OutOk Z B F1 N o
  | .next ρ, h => fun F' H' σ' s1 k => h F' H' σ' (s.trans s1) k
  | .brk ρ, h => fun F' H' σ' s1 k => h F' H' σ' (s.trans s1) k
  | .cont ρ, h => fun F' H' σ' s1 k => h F' H' σ' (s.trans s1) k
  | .ret d, h => h
  | .exc x ρ, h => fun F' H' σ' c o s1 k => h F' H' σ' c o (s.trans s1) k
theorem outs_mono {Z : Kx} {B : Bx} {F0 F1 : Hp} {N : Ends} (s : Same F0 F1) {t : R Out} (h : t.all (OutOk Z B F0 N) (fun _ => False)) : t.all (OutOk Z B F1 N) (fun _ => False) := R.all_imp (fun _ z => z.mono s) (fun _ z => z) h
/-- an expression's way out, within a statement -/
def lift {α : Type} (ρ : Rho) (t : R α) (f : α → R Out) : R Out := t.bx (fun x => .ok (.exc x ρ)) f
@[simp] theorem lift_ok {α : Type} (ρ : Rho) (a : α) (f : α → R Out) : lift ρ (.ok a) f = f a := rfl
@[simp] theorem lift_exn {α : Type} (ρ : Rho) (x : D) (f : α → R Out) : lift ρ (.exn x) f = .ok (.exc x ρ) := rfl
section
variable {Z : Kx} {B : Bx} {F H F' H' : Hp} {σ : L2.St} {ρ : Rho}
theorem exc_ok' {N : Ends} {y : Y.D} (ok : Ok Z B F H σ ρ) (h : (R.ok (Out.exc y ρ)).all (OutOk Z B F N) (fun _ => False)) : XpE Z B F H σ y := fun F' H' c o e q => h F' H' σ c o e.ff (ok.step e) q
theorem sE {Q : VK} {m : Rho → R Y.D} {g : Y.D → R Out} {N : Ends} (ok : Ok Z B F H σ ρ) (h : (lift ρ (m ρ) g).all (OutOk Z B F N) (fun _ => False))
    (k : ∀ d F' H' v, Ext B.dl F H F' H' → RpX Z B F' d v → (g d).all (OutOk Z B F' N) (fun _ => False) → Q v H') : yE Z B m σ H Q :=
  ⟨F, ρ, ok, R.all_imp (fun d q F' H' v e r => k d F' H' v e r (outs_mono e.ff q)) (fun x z => exc_ok' ok z) (R.all_bx.mp h)⟩
theorem sB {Q : VK} {m : Rho → R Y.D} {g : Y.D → R Out} {N : Ends} (ok : Ok Z B F H σ ρ) (h : (lift ρ (m ρ) g).all (OutOk Z B F N) (fun _ => False))
    (k : ∀ d F' H' v, Ext B.dl F H F' H' → RpB Z B F' H' d v → (g d).all (OutOk Z B F' N) (fun _ => False) → Q v H') : yB Z B m σ H Q :=
  ⟨F, ρ, ok, R.all_imp (fun d q F' H' v e r => k d F' H' v e r (outs_mono e.ff q)) (fun x z => exc_ok' ok z) (R.all_bx.mp h)⟩
theorem sO {Q : VK} {m : Rho → R (List Y.D)} {g : List Y.D → R Out} {N : Ends} (ok : Ok Z B F H σ ρ) (h : (lift ρ (m ρ) g).all (OutOk Z B F N) (fun _ => False))
    (k : ∀ ds F' H' a vs, Ext B.dl F H F' H' → F' a = none → H a = none → H' a = some (.lst vs) → RpLX Z B F' ds vs → (g ds).all (OutOk Z B F' N) (fun _ => False) → Q (.ref a) H') : yO Z B m σ H Q :=
  ⟨F, ρ, ok, R.all_imp (fun d q F' H' a vs e n1 n2 h1 r => k d F' H' a vs e n1 n2 h1 r (outs_mono e.ff q)) (fun x z => exc_ok' ok z) (R.all_bx.mp h)⟩
theorem sA {Q : List V → Hp → Prop} {m : Rho → R (List Y.D)} {g : List Y.D → R Out} {N : Ends} (ok : Ok Z B F H σ ρ) (h : (lift ρ (m ρ) g).all (OutOk Z B F N) (fun _ => False))
    (k : ∀ ds F' H' vs, Ext B.dl F H F' H' → RpLX Z B F' ds vs → (g ds).all (OutOk Z B F' N) (fun _ => False) → Q vs H') : yA Z B m σ H Q :=
  ⟨F, ρ, ok, R.all_imp (fun d q F' H' vs e r => k d F' H' vs e r (outs_mono e.ff q)) (fun x z => exc_ok' ok z) (R.all_bx.mp h)⟩
theorem sT {Q : Bool → Hp → Prop} {m : Rho → R Bool} {g : Bool → R Out} {N : Ends} (ok : Ok Z B F H σ ρ) (h : (lift ρ (m ρ) g).all (OutOk Z B F N) (fun _ => False))
    (k : ∀ b F' H', Ext B.dl F H F' H' → (g b).all (OutOk Z B F' N) (fun _ => False) → Q b H') : yT Z B m σ H Q :=
  ⟨F, ρ, ok, R.all_imp (fun d q F' H' e => k d F' H' e (outs_mono e.ff q)) (fun x z => exc_ok' ok z) (R.all_bx.mp h)⟩

/-! the frame changes -/
theorem Ok.sh (k : Ok Z B F H σ ρ) {d : Y.D} {v : V} (r : RpX Z B F d v) (i : Nat) : Ok Z B F H (σ.set i (some v)) (ρ.set i (.sh d)) := by
  refine ⟨k.ext, k.df, k.dk0, by rw [List.length_set, List.length_set]; exact k.len, fun j s e => ?_, fun j l ds es a ne e1 e2 e3 e4 => ?_⟩
  · by_cases h : i = j
    · subst h
      rw [List.getElem?_set] at e ⊢
      simp only [if_true] at e ⊢
      split at e
      · rename_i hl
        cases e
        rw [if_pos (by rw [k.len]; exact hl)]
        exact ⟨v, rfl, r⟩
      · cases e
    · rw [List.getElem?_set_ne h] at e ⊢
      exact k.sl j s e
  · have h1 : i ≠ j := fun z => by
      subst z
      rw [List.getElem?_set] at e1
      simp only [if_true] at e1
      split at e1 <;> cases e1
    have h2 : i ≠ l := fun z => by
      subst z
      rw [List.getElem?_set] at e2
      simp only [if_true] at e2
      split at e2 <;> cases e2
    rw [List.getElem?_set_ne h1] at e1 e3
    rw [List.getElem?_set_ne h2] at e2 e4
    exact k.inj j l ds es a ne e1 e2 e3 e4
/-- a slot is forgotten -/
theorem Ok.no (k : Ok Z B F H σ ρ) (i : Nat) : Ok Z B F H σ (ρ.set i .no) := by
  refine ⟨k.ext, k.df, k.dk0, by rw [List.length_set]; exact k.len, fun j s e => ?_, fun j l ds es a ne e1 e2 e3 e4 => ?_⟩
  · by_cases h : i = j
    · subst h
      rw [List.getElem?_set] at e
      simp only [if_true] at e
      split at e
      · cases e; trivial
      · cases e
    · rw [List.getElem?_set_ne h] at e
      exact k.sl j s e
  · have h1 : i ≠ j := fun z => by
      subst z
      rw [List.getElem?_set] at e1
      simp only [if_true] at e1
      split at e1 <;> cases e1
    have h2 : i ≠ l := fun z => by
      subst z
      rw [List.getElem?_set] at e2
      simp only [if_true] at e2
      split at e2 <;> cases e2
    rw [List.getElem?_set_ne h1] at e1
    rw [List.getElem?_set_ne h2] at e2
    exact k.inj j l ds es a ne e1 e2 e3 e4
theorem Ext.new_old {dl : DL} {F H F' H' : Hp} (e : Ext dl F H F' H') {a : Addr} (n : H' a = none) : H a = none := by
  cases z : H a with
  | none => rfl
  | some o =>
    exfalso
    by_cases d : Dl dl a
    · exact e.dk.there d n
    · rw [e.hh a o z d] at n; cases n
/-- a new list of one's own comes into a slot -/
theorem Ok.own (k : Ok Z B F H σ ρ) {ds : List Y.D} {a : Addr} {vs : List V} (e : Ext B.dl F H F' H') (n1 : F' a = none) (n2 : H a = none) (h : H' a = some (.lst vs)) (r : RpLX Z B F' ds vs) (i : Nat) :
    Ok Z B F' H' (σ.set i (some (.ref a))) (ρ.set i (.ow ds)) := by
  have k' := k.step e
  have other : ∀ (j : Nat) (es : List Y.D) (b : Addr), ρ[j]? = some (.ow es) → σ[j]? = some (some (.ref b)) → b ≠ a := fun j es b e1 e2 z => by
    subst z
    obtain ⟨b', ws, e3, _, q, _⟩ := k.sl j _ e1
    rw [e2] at e3
    cases e3
    rw [n2] at q; cases q
  refine ⟨k'.ext, k'.df, k'.dk0, by rw [List.length_set, List.length_set]; exact k.len, fun j s e => ?_, fun j l ds es b ne e1 e2 e3 e4 => ?_⟩
  · by_cases h : i = j
    · subst h
      rw [List.getElem?_set] at e ⊢
      simp only [if_true] at e ⊢
      split at e
      · rename_i hl
        cases e
        rw [if_pos (by rw [k.len]; exact hl)]
        exact ⟨a, vs, rfl, ⟨n1, k.ext.new_old n2, k.dk.nof n2⟩, by assumption, r⟩
      · cases e
    · rw [List.getElem?_set_ne h] at e ⊢
      exact k'.sl j s e
  · by_cases h1 : i = j
    · subst h1
      have h2 : i ≠ l := ne
      rw [List.getElem?_set_ne h2] at e2 e4
      rw [List.getElem?_set] at e3
      simp only [if_true] at e3
      split at e3
      · cases e3
        exact other l es a e2 e4 rfl
      · cases e3
    · rw [List.getElem?_set_ne h1] at e1 e3
      by_cases h2 : i = l
      · subst h2
        rw [List.getElem?_set] at e4
        simp only [if_true] at e4
        split at e4
        · cases e4
          exact other j ds a e1 e3 rfl
        · cases e4
      · rw [List.getElem?_set_ne h2] at e2 e4
        exact k'.inj j l ds es b ne e1 e2 e3 e4
/-- a list of one's own is changed -/
theorem Ok.mut (k : Ok Z B F H σ ρ) {i : Nat} {ds ds' : List Y.D} {a : Addr} {vs' : List V} (e : ρ[i]? = some (.ow ds)) (ea : σ[i]? = some (some (.ref a))) (r : RpLX Z B F ds' vs') : Ok Z B F (upd H a (.lst vs')) σ (ρ.set i (.ow ds')) := by
  obtain ⟨a', vs, ea', ⟨o1, o2, o3⟩, h1, r1⟩ := k.sl i _ e
  rw [ea] at ea'
  cases ea'
  refine ⟨⟨k.ext.ff, fun b o w => ?_, fun b o w n => ?_, k.ext.fr, k.ext.dk.upd o3⟩, k.df, k.dk0, by rw [List.length_set]; exact k.len, fun j s e' => ?_, fun j l ds es b ne e1 e2 e3 e4 => ?_⟩
  · rw [upd_ne (fun z => by subst z; rw [o1] at w; cases w)]
    exact k.fh b o w
  · rw [upd_ne (fun z => by subst z; rw [o2] at w; cases w)]
    exact k.ext.hh b o w n
  · by_cases h : i = j
    · subst h
      rw [List.getElem?_set] at e'
      simp only [if_true] at e'
      split at e'
      · cases e'
        exact ⟨a, vs', ea, ⟨o1, o2, o3⟩, upd_same, r⟩
      · cases e'
    · rw [List.getElem?_set_ne h] at e'
      cases s with
      | no => trivial
      | sh d => exact k.sl j _ e'
      | ow es =>
        obtain ⟨b, ws, e5, p, q, r2⟩ := k.sl j _ e'
        refine ⟨b, ws, e5, p, ?_, r2⟩
        rw [upd_ne (fun z => by
          subst z
          exact k.inj j i _ _ b (Ne.symm h) e' e e5 ea)]
        exact q
  · have w1 : ∃ ds', ρ[j]? = some (.ow ds') := by
      by_cases h : i = j
      · subst h; exact ⟨_, e⟩
      · rw [List.getElem?_set_ne h] at e1; exact ⟨_, e1⟩
    have w2 : ∃ ds', ρ[l]? = some (.ow ds') := by
      by_cases h : i = l
      · subst h; exact ⟨_, e⟩
      · rw [List.getElem?_set_ne h] at e2; exact ⟨_, e2⟩
    obtain ⟨_, w1⟩ := w1
    obtain ⟨_, w2⟩ := w2
    exact k.inj j l _ _ b ne w1 w2 e3 e4
/-- a list of one's own stands still from now on -/
theorem Ok.frz (k : Ok Z B F H σ ρ) {i : Nat} {ds : List Y.D} (e : ρ[i]? = some (.ow ds)) : ∃ F', Same F F' ∧ Ok Z B F' H σ (ρ.set i (.sh (.lst ds))) := by
  obtain ⟨a, vs, ea, ⟨o1, o2, o3⟩, h1, r1⟩ := k.sl i _ e
  have ss : Same F (upd F a (.lst vs)) := same_upd o1
  refine ⟨upd F a (.lst vs), ss, ⟨k.ext.ff.trans ss, fun b o w => ?_, k.ext.hh, fun b o w => ?_, k.ext.dk⟩, fun b hb => ?_, k.dk0, by rw [List.length_set]; exact k.len, fun j s e' => ?_, fun j l ds es b ne e1 e2 e3 e4 => ?_⟩
  · by_cases q : b = a
    · subst q; rw [upd_same] at w; rw [← w]; exact h1
    · rw [upd_ne q] at w; exact k.fh b o w
  · by_cases q : b = a
    · subst q; exact .inr o2
    · rw [upd_ne q] at w; exact k.ext.fr b o w
  · rw [upd_ne (fun z => o3 (by rw [← z]; exact hb))]
    exact k.df b hb
  · by_cases h : i = j
    · subst h
      rw [List.getElem?_set] at e'
      simp only [if_true] at e'
      split at e'
      · cases e'
        exact ⟨.ref a, ea, Rp.lst upd_same (RpL.mono ss _ _ r1)⟩
      · cases e'
    · rw [List.getElem?_set_ne h] at e'
      cases s with
      | no => trivial
      | sh d =>
        obtain ⟨v, e5, r⟩ := k.sl j _ e'
        exact ⟨v, e5, Rp.mono ss _ _ r⟩
      | ow es =>
        obtain ⟨b, ws, e5, ⟨p1, p2, p3⟩, q, r2⟩ := k.sl j _ e'
        refine ⟨b, ws, e5, ⟨?_, p2, p3⟩, q, RpL.mono ss _ _ r2⟩
        rw [upd_ne (fun z => by
          subst z
          exact k.inj j i _ _ b (Ne.symm h) e' e e5 ea)]
        exact p1
  · have h1 : i ≠ j := fun z => by
      subst z
      rw [List.getElem?_set] at e1
      simp only [if_true] at e1
      split at e1 <;> cases e1
    have h2 : i ≠ l := fun z => by
      subst z
      rw [List.getElem?_set] at e2
      simp only [if_true] at e2
      split at e2 <;> cases e2
    rw [List.getElem?_set_ne h1] at e1
    rw [List.getElem?_set_ne h2] at e2
    exact k.inj j l _ _ b ne e1 e2 e3 e4
end

/-! ### blocks, small statements -/
def mSeq (a b : Rho → R Out) : Rho → R Out := fun ρ => (a ρ).bind fun o => match o with
  | .next ρ' => b ρ'
  | o => .ok o
def mSkip : Rho → R Out := fun ρ => .ok (.next ρ)
def mBrk : Rho → R Out := fun ρ => .ok (.brk ρ)
def mCnt : Rho → R Out := fun ρ => .ok (.cont ρ)
def mRet (m : Rho → R D) : Rho → R Out := fun ρ => lift ρ (m ρ) fun d => .ok (.ret d)
def mSet (i : Nat) (m : Rho → R D) : Rho → R Out := fun ρ => lift ρ (m ρ) fun d => .ok (.next (ρ.set i (.sh d)))
def mOwn (i : Nat) (m : Rho → R (List D)) : Rho → R Out := fun ρ => lift ρ (m ρ) fun ds => .ok (.next (ρ.set i (.ow ds)))
def mDrop (m : Rho → R D) : Rho → R Out := fun ρ => lift ρ (m ρ) fun _ => .ok (.next ρ)
def mIf (t : Rho → R Bool) (a b : Rho → R Out) : Rho → R Out := fun ρ => lift ρ (t ρ) fun c => if c = true then a ρ else b ρ
def mFrzS (i : Nat) (m : Rho → R Out) : Rho → R Out := fun ρ => match ρ[i]? with
  | some (.ow ds) => m (ρ.set i (.sh (.lst ds)))
  | _ => m ρ
def mNo (i : Nat) (m : Rho → R Out) : Rho → R Out := fun ρ => m (ρ.set i .no)
section
variable {X : Cx} {B : Bx} {st : Stmt} {rest : List Stmt} {e : Expr} {pos : Pos} {m1 m2 : Rho → R Out} {m : Rho → R D}
theorem css_nil : PSs X [] (yS X.kx B mSkip) := pss_imp pss_nil fun N σ H ⟨F, ρ, ok, q⟩ => q F H σ (Same.refl F) ok
theorem css_cons (h1 : PS X st (yS X.kx B m1)) (h2 : PSs X rest (yS X.kx B m2)) : PSs X (st :: rest) (yS X.kx B (mSeq m1 m2)) := pss_imp (pss_cons h1 h2) fun N σ H ⟨F, ρ, ok, q⟩ => by
  refine ⟨F, ρ, ok, R.all_imp (fun o z => ?_) (fun _ z => z) (R.all_bind.mp q)⟩
  cases o with
  | next ρ' => exact fun F' H' σ' s k => ⟨F', ρ', k, outs_mono s z⟩
  | ret d => exact z
  | brk ρ' => exact z
  | cont ρ' => exact z
  | exc x ρ' => exact z
theorem css_one (h1 : PS X st (yS X.kx B m1)) : PSs X [st] (yS X.kx B m1) := pss_one h1
theorem css_frz {sts : List Stmt} (i : Nat) (h : PSs X sts (yS X.kx B m1)) : PSs X sts (yS X.kx B (mFrzS i m1)) := pss_imp h fun N σ H ⟨F, ρ, ok, q⟩ => by
  unfold mFrzS at q
  split at q
  · rename_i ds e
    obtain ⟨F', s, k⟩ := ok.frz e
    exact ⟨F', _, k, outs_mono s q⟩
  · exact ⟨F, ρ, ok, q⟩
theorem css_no {sts : List Stmt} (i : Nat) (h : PSs X sts (yS X.kx B m1)) : PSs X sts (yS X.kx B (mNo i m1)) := pss_imp h fun N σ H ⟨F, ρ, ok, q⟩ => ⟨F, _, ok.no i, q⟩
theorem cs_pass : PS X (.Pass pos) (yS X.kx B mSkip) := ps_imp ps_pass fun N σ H ⟨F, ρ, ok, q⟩ => q F H σ (Same.refl F) ok
theorem cs_break : PS X (.Break pos) (yS X.kx B mBrk) := ps_imp ps_break fun N σ H ⟨F, ρ, ok, q⟩ => q F H σ (Same.refl F) ok
theorem cs_continue : PS X (.Continue pos) (yS X.kx B mCnt) := ps_imp ps_continue fun N σ H ⟨F, ρ, ok, q⟩ => q F H σ (Same.refl F) ok
theorem cs_ret (h : PE X e (yE X.kx B m)) : PS X (.Return (some e) pos) (yS X.kx B (mRet m)) := ps_imp (ps_ret h) fun N σ H ⟨F, ρ, ok, q⟩ =>
  sE ok q fun d F' H' v e1 r z => z F' H' v (ok.step e1).ext r
theorem cs_retN : PS X (.Return none pos) (yS X.kx B (mRet (mC .non))) := ps_imp ps_retN fun N σ H ⟨F, ρ, ok, q⟩ => q F H .non ok.ext Rp.non
theorem cs_drop (h : PE X e (yE X.kx B m)) (hs : swapsWith e none pos.line X.env = pure false := by rfl) : PS X (.Expr e pos) (yS X.kx B (mDrop m)) := ps_imp (ps_expr h hs) fun N σ H ⟨F, ρ, ok, q⟩ =>
  sE ok q fun d F' H' v e1 r z => z F' H' σ (Same.refl F') (ok.step e1)
theorem cs_if {a b : List Stmt} {t : Rho → R Bool} (ht : PT X e (yT X.kx B t)) (ha : PSs X a (yS X.kx B m1)) (hb : PSs X b (yS X.kx B m2)) : PS X (.If e a b pos) (yS X.kx B (mIf t m1 m2)) := ps_imp (ps_if ht ha hb) fun D σ H ⟨F, ρ, ok, q⟩ =>
  sT ok q fun c F' H' e1 z => by
    cases c with
    | true => exact ⟨F', ρ, ok.step e1, z⟩
    | false => exact ⟨F', ρ, ok.step e1, z⟩
/-- what a store into a name asks of the value's reading -/
theorem set_read {i : Nat} {te : TE} (ht : ∀ σ H Q, yE X.kx B m σ H Q → te σ H Q) : ∀ D σ H, yS X.kx B (mSet i m) D σ H → tAsg te (gName i) D σ H := fun D σ H ⟨F, ρ, ok, q⟩ =>
  ht σ H _ (sE ok q fun d F' H' v e1 r z => z F' H' _ (Same.refl F') ((ok.step e1).sh r i))
theorem own_read {i : Nat} {m : Rho → R (List Y.D)} {te : TE} (ht : ∀ σ H Q, yO X.kx B m σ H Q → te σ H Q) : ∀ D σ H, yS X.kx B (mOwn i m) D σ H → tAsg te (gName i) D σ H := fun D σ H ⟨F, ρ, ok, q⟩ =>
  ht σ H _ (sO ok q fun d F' H' a vs e1 n1 n2 h1 r z => z F' H' _ (Same.refl F') (ok.own e1 n1 n2 h1 r i))
theorem cs_set (i : Nat) {x : Str} {p' : Pos} (hN : X.N.Nodup) (he : PE X e (yE X.kx B m)) (hi : X.N[i]? = some x := by rfl) (hx : Loc X.env.scope x := by first | exact Or.inl rfl | exact Or.inr rfl)
    (hs : swapsWith e (some (.Name x p')) pos.line X.env = pure false := by rfl) (hf : X.fn x = true ∨ X.env.scope.names.lookup x = some .local := by first | exact .inl rfl | exact .inr rfl) : PS X (.Assign [.Name x p'] e pos) (yS X.kx B (mSet i m)) :=
  ps_imp (ps_set hN hi hx he hs hf) (set_read fun _ _ _ q => q)
theorem cs_own (i : Nat) {x : Str} {p' : Pos} {m : Rho → R (List Y.D)} (hN : X.N.Nodup) (he : PE X e (yO X.kx B m)) (hi : X.N[i]? = some x := by rfl) (hx : Loc X.env.scope x := by first | exact Or.inl rfl | exact Or.inr rfl)
    (hs : swapsWith e (some (.Name x p')) pos.line X.env = pure false := by rfl) (hf : X.fn x = true ∨ X.env.scope.names.lookup x = some .local := by first | exact .inl rfl | exact .inr rfl) : PS X (.Assign [.Name x p'] e pos) (yS X.kx B (mOwn i m)) :=
  ps_imp (ps_set hN hi hx he hs hf) (own_read fun _ _ _ q => q)
end
end Y
/-! # Y4 -/
set_option Elab.async false
set_option linter.all false
set_option maxRecDepth 100000
set_option maxHeartbeats 4000000
namespace Y
open PySem PySem.Spec L2

/-! ### targets -/
abbrev Bnd := D → Rho → Option Rho
section
variable (Z : Kx) (B : Bx)
def yG (ws : List Nat) (b : Bnd) : TG := fun v σ H Q => ∃ F ρ d ρ', Ok Z B F H σ ρ ∧ RpX Z B F d v ∧ b d ρ = some ρ' ∧ ∀ σ', Ok Z B F H σ' ρ' → wipe σ' ws = wipe σ ws → Q σ' H
def yGs (ws : List Nat) (b : List D → Rho → Option Rho) : TGs := fun vs σ H Q => ∃ F ρ ds ρ', Ok Z B F H σ ρ ∧ RpLX Z B F ds vs ∧ b ds ρ = some ρ' ∧ ∀ σ', Ok Z B F H σ' ρ' → wipe σ' ws = wipe σ ws → Q σ' H
end
def bName (i : Nat) : Bnd := fun d ρ => some (ρ.set i (.sh d))
def bNil : List D → Rho → Option Rho := fun ds ρ => if ds.isEmpty then some ρ else none
def bCons (b : Bnd) (r : List D → Rho → Option Rho) : List D → Rho → Option Rho := fun ds ρ => match ds with
  | d :: ds => match b d ρ with
    | some ρ' => r ds ρ'
    | none => none
  | [] => none
def bTup (b : List D → Rho → Option Rho) : Bnd := fun d ρ => match d with
  | .tup ds => b ds ρ
  | _ => none
section
variable {X : Cx} {B : Bx} {pos : Pos} {ws : List Nat}
theorem wipe_in {σ : L2.St} {i : Nat} {v : Option V} : ∀ {ws : List Nat}, i ∈ ws → wipe (σ.set i v) ws = wipe σ ws
  | [], h => by simp at h
  | w :: ws, h => by
    unfold wipe
    by_cases e : i ∈ ws
    · rw [wipe_in e]
    · have ew : i = w := by
        rcases List.mem_cons.mp h with q | q
        · exact q
        · exact absurd q e
      subst ew
      have key : ∀ us : List Nat, i ∉ us → wipe (σ.set i v) us = (wipe σ us).set i v := fun us => by
        induction us with
        | nil => intro _; rfl
        | cons u us ih =>
          intro hn
          unfold wipe
          rw [ih (fun z => hn (List.mem_cons_of_mem _ z)), List.set_comm _ _ (fun z => hn (by rw [← z]; exact List.mem_cons_self ..))]
      rw [key ws e, List.set_set]
theorem cg_name (i : Nat) {x : Str} (hN : X.N.Nodup) (hi : X.N[i]? = some x := by rfl) (hx : Loc X.env.scope x := by first | exact Or.inl rfl | exact Or.inr rfl) (hf : X.fn x = true ∨ X.env.scope.names.lookup x = some .local := by first | exact .inl rfl | exact .inr rfl) (hw : i ∈ ws := by decide) : PG X (.Name x pos) (yG X.kx B ws (bName i)) := ⟨fun pins s σ H v u Q I r ⟨F, ρ, d, ρ', ok, rp, e, k⟩ => (pg_name hN hi hx hf).run pins s σ H v u Q I r (by
      cases e
      exact k _ (ok.sh rp i) (wipe_in hw))⟩
theorem cgs_nil : PGs X [] (yGs X.kx B ws bNil) := ⟨fun pins s σ H vs us Q I r ⟨F, ρ, ds, ρ', ok, rp, e, k⟩ => pgs_nil.run pins s σ H vs us Q I r (by
      unfold bNil at e
      cases ds with
      | nil =>
        unfold RpLX RpL at rp
        cases e
        exact ⟨rp, k σ ok rfl⟩
      | cons d ds => cases e)⟩
theorem cgs_cons {t : Expr} {ts : List Expr} {b : Bnd} {bs : List D → Rho → Option Rho} (h1 : PG X t (yG X.kx B ws b)) (h2 : PGs X ts (yGs X.kx B ws bs))
    (hs : (assignEach (t :: ts) X.env).map (·.2) = assign t X.env :: (assignEach ts X.env).map (·.2) := by rfl) : PGs X (t :: ts) (yGs X.kx B ws (bCons b bs)) := ⟨fun pins s σ H vs us Q I r ⟨F, ρ, ds, ρ', ok, rp, e, k⟩ =>
  (pgs_cons h1 h2 hs).run pins s σ H vs us Q I r (by
      unfold bCons at e
      cases ds with
      | nil => cases e
      | cons d ds =>
        unfold RpLX RpL at rp
        obtain ⟨v, r', rfl, q1, q2⟩ := rp
        simp only at e
        cases hb : b d ρ with
        | none => rw [hb] at e; cases e
        | some ρ1 =>
          rw [hb] at e
          exact ⟨v, r', rfl, F, ρ, d, ρ1, ok, q1, hb, fun σ' ok' w' => ⟨F, ρ1, ds, ρ', ok', q2, e, fun σ2 ok2 w2 => k σ2 ok2 (w2.trans w')⟩⟩)⟩
theorem cg_tup {es : List Expr} {k n : Nat} {bs : List D → Rho → Option Rho} (hc : X.calm = true) (h : PGs X es (yGs X.kx B ws bs))
    (hz : ∀ ds ρ ρ', bs ds ρ = some ρ' → ds.length = n) (hn : (assignEach es X.env).length = n := by rfl) (hst : (assignEach es X.env).findIdx? (·.1) = none := by rfl) : PG X (.Tuple es k pos) (yG X.kx B ws (bTup bs)) := ⟨fun pins s σ H v u Q I r ⟨F, ρ, d, ρ', ok, rp, e, kk⟩ =>
  (pg_tup hc h hn hst).run pins s σ H v u Q I r (by
      unfold bTup at e
      split at e
      · rename_i ds
        unfold RpX Rp at rp
        obtain ⟨a, vs, rfl, q1, q2⟩ := rp
        exact ⟨a, vs, rfl, .inl (.inl (ok.fh _ _ q1)), by rw [RpL.length q2]; exact hz _ _ _ e, F, ρ, ds, ρ', ok, q2, e, kk⟩
      · cases e)⟩
end
theorem bn0 : ∀ ds ρ ρ', bNil ds ρ = some ρ' → ds.length = 0 := fun ds ρ ρ' e => by
  cases ds with
  | nil => rfl
  | cons d ds => cases e
theorem bnS {b : Bnd} {bs : List D → Rho → Option Rho} {n : Nat} (h : ∀ ds ρ ρ', bs ds ρ = some ρ' → ds.length = n) : ∀ ds ρ ρ', bCons b bs ds ρ = some ρ' → ds.length = n + 1 := fun ds ρ ρ' e => by
  cases ds with
  | nil => cases e
  | cons d ds =>
    unfold bCons at e
    simp only at e
    split at e
    · rw [List.length_cons, h _ _ _ e]
    · cases e

/-! ### what is walked -/
/-- it gives these data one after another, as long as what is frozen stands -/
structure Wk (Z : Kx) (B : Bx) (J : It) (ds : List D) (F : Hp) : Prop where
  go : ∀ F1 H1 i, Same F F1 → Same F1 H1 → i < ds.length → J.go i H1
  stop : ∀ F1 H1, Same F F1 → Same F1 H1 → J.stop ds.length H1
  yld : ∀ F1 H1 i x H2 d, Same F F1 → Same F1 H1 → DealOk B.dl H1 → ds[i]? = some d → J.yld i H1 x H2 → ∃ F2, Ext B.dl F1 H1 F2 H2 ∧ RpX Z B F2 d x
section
variable (Z : Kx) (B : Bx)
def PI1 (F H : Hp) (R : It → Hp → Prop) : List D → Prop := fun ds => ∀ F' H' J, Ext B.dl F H F' H' → Wk Z B J ds F' → R J H'
def yI (m : Rho → R (List D)) : TI := fun σ H R => ∃ F ρ, Ok Z B F H σ ρ ∧ (m ρ).all (PI1 Z B F H R) (XpE Z B F H σ)
end
/-- the items of a list or a tuple -/
def dIter : D → R (List D)
  | .lst ds => .ok ds
  | .tup ds => .ok ds
  | _ => .stuck
def mIter (m : Rho → R D) : Rho → R (List D) := fun ρ => (m ρ).bind dIter
def rangeD (lo : Int) (n : Nat) (c : Int) : List D := (List.range n).map fun i => .int (lo + (i : Nat) * c)
def big (i : Int) : Prop := -(2 ^ 62) ≤ i ∧ i < 2 ^ 62
instance (i : Int) : Decidable (big i) := inferInstanceAs (Decidable (_ ∧ _))
def dRange1 : List D → R (List D)
  | [.int j] => R.grd (big j) (.ok (rangeD 0 j.toNat 1))
  | _ => .stuck
def dRange2 : List D → R (List D)
  | [.int i, .int j] => R.grd (big i ∧ big j) (.ok (rangeD i (j - i).toNat 1))
  | _ => .stuck
/-- turns of a range with step c -/
def stepsN (i j c : Int) : Nat := if 0 < c then ((j - i + c - 1) / c).toNat else ((i - j - c - 1) / (-c)).toNat
def mArgs (f : List D → R (List D)) (m : Rho → R (List D)) : Rho → R (List D) := fun ρ => (m ρ).bind f
section
variable {X : Cx} {B : Bx} {e : Expr} {tg : Expr} {m : Rho → R D} {F : Hp}
theorem wk_list {a : Addr} {vs : List V} {ds : List D} (h : F a = some (.lst vs)) (r : RpLX X.kx B F ds vs) : Wk X.kx B (Itl X.K a) ds F where
  go := fun F1 H1 i s1 s2 hi => by
    rw [← RpL.length r] at hi
    exact ⟨vs, vs[i], .inl (.inl (s2 _ _ (s1 _ _ h))), by simp [hi]⟩
  stop := fun F1 H1 s1 s2 => ⟨vs, .inl (.inl (s2 _ _ (s1 _ _ h))), by rw [RpL.length r]; exact Nat.le_refl _⟩
  yld := fun F1 H1 i x H2 d s1 s2 k hd y => by
    obtain ⟨v, e, q⟩ := RpL.get r hd
    obtain ⟨rfl, y⟩ := y
    have e2 := y vs (.inl (.inl (s2 _ _ (s1 _ _ h))))
    rw [e] at e2
    cases e2
    exact ⟨F1, .refl s2 k, Rp.mono s1 _ _ q⟩
theorem wk_tup {a : Addr} {vs : List V} {ds : List D} (h : F a = some (.tup vs)) (r : RpLX X.kx B F ds vs) : Wk X.kx B (Itt X.K a) ds F where
  go := fun F1 H1 i s1 s2 hi => by
    rw [← RpL.length r] at hi
    exact ⟨vs, vs[i], .inl (.inl (s2 _ _ (s1 _ _ h))), by simp [hi]⟩
  stop := fun F1 H1 s1 s2 => ⟨vs, .inl (.inl (s2 _ _ (s1 _ _ h))), by rw [RpL.length r]; exact Nat.le_refl _⟩
  yld := fun F1 H1 i x H2 d s1 s2 k hd y => by
    obtain ⟨v, e, q⟩ := RpL.get r hd
    obtain ⟨rfl, y⟩ := y
    have e2 := y vs (.inl (.inl (s2 _ _ (s1 _ _ h))))
    rw [e] at e2
    cases e2
    exact ⟨F1, .refl s2 k, Rp.mono s1 _ _ q⟩
theorem rangeD_len (lo : Int) (n : Nat) (c : Int) : (rangeD lo n c).length = n := by simp [rangeD]
theorem rangeD_get {lo : Int} {n : Nat} {c : Int} {i : Nat} {d : D} (h : (rangeD lo n c)[i]? = some d) : d = .int (lo + (i : Nat) * c) := by
  unfold rangeD at h
  rw [List.getElem?_map] at h
  cases q : (List.range n)[i]? with
  | none => rw [q] at h; cases h
  | some k =>
    rw [q] at h
    have := List.getElem?_range (n := n) (i := i)
    rw [List.getElem?_eq_some_iff] at q
    obtain ⟨_, q⟩ := q
    simp at q
    subst q
    simpa using h.symm
theorem wk_range {lo : Int} {n : Nat} : Wk X.kx B (Itr lo n) (rangeD lo n 1) F where
  go := fun F1 H1 i _ _ hi => by rw [rangeD_len] at hi; exact hi
  stop := fun F1 H1 _ _ => by rw [rangeD_len]; exact Nat.le_refl n
  yld := fun F1 H1 i x H2 d _ s2 k hd y => by
    obtain ⟨rfl, rfl⟩ := y
    rw [rangeD_get hd, Int.mul_one]
    exact ⟨F1, .refl s2 k, Rp.int _⟩
theorem wk_rangeC {lo c : Int} {n : Nat} : Wk X.kx B (Itc lo c n) (rangeD lo n c) F where
  go := fun F1 H1 i _ _ hi => by rw [rangeD_len] at hi; exact hi
  stop := fun F1 H1 _ _ => by rw [rangeD_len]; exact Nat.le_refl n
  yld := fun F1 H1 i x H2 d _ s2 k hd y => by
    obtain ⟨rfl, rfl⟩ := y
    rw [rangeD_get hd]
    exact ⟨F1, .refl s2 k, Rp.int _⟩
/-- the items of a thing that is walked, its kind told by itself -/
theorem pi_both {l : Expr} {tl : TE} (hl : PE X l tl) : PI X tg l (fun σ H R => tl σ H fun x H1 => ∃ a, x = .ref a ∧ ((∃ xs, SqL X.K H1 a xs) ∧ R (Itl X.K a) H1 ∨ (∃ xs, SqT X.K H1 a xs) ∧ R (Itt X.K a) H1)) := ⟨fun pins s σ H R I h =>
  thn (hl.run pins s σ H _ I h) fun v s1 ⟨x, H1, I1, r1, a, e, q⟩ => by
    subst e
    obtain rfl : v = Value.ref a := r1
    have fp : ∀ b ∈ [s1.heap.objs.size], FpOk X pins H1 b := fun b hb => by
      rw [List.mem_singleton.mp hb]
      exact I1.fpOk (Nat.le_refl _) (I1.hok.fresh (Nat.le_refl _))
    rcases q with ⟨⟨xs, hq⟩, q⟩ | ⟨⟨xs, hq⟩, q⟩
    · obtain ⟨its, rv, p, hz⟩ := I1.list hq
      refine wpAny_pyIter_list p.isList ⟨_, _, _, _, H1, rfl, I1.kept (t' := s1.toks) fun b o z => Heap.get?_push_of_some _ z, turn_list a _, ⟨_, Heap.get?_push_size _ rfl, rfl, rfl⟩, fp, q⟩
    · obtain ⟨its, rv, p, hz⟩ := I1.tuple hq
      refine wpAny_pyIter_tuple (items := its.toArray) p ⟨_, _, _, _, H1, rfl, I1.kept (t' := s1.toks) fun b o z => Heap.get?_push_of_some _ z, turn_tuple a _, ⟨_, Heap.get?_push_size _ rfl, rfl, rfl⟩, fp, q⟩⟩
theorem ci_seq (h : PE X e (yE X.kx B m)) : PI X tg e (yI X.kx B (mIter m)) := pi_imp (pi_both h) fun σ H T ⟨F, ρ, ok, q⟩ => seqE ok q fun d F' H' v e1 r q1 => by
  have k := ok.step e1
  cases d with
  | lst ds =>
    unfold RpX Rp at r
    obtain ⟨a, vs, rfl, h1, r1⟩ := r
    exact ⟨a, rfl, .inl ⟨⟨vs, .inl (.inl (k.fh _ _ h1))⟩, q1 F' H' _ e1 (wk_list h1 r1)⟩⟩
  | tup ds =>
    unfold RpX Rp at r
    obtain ⟨a, vs, rfl, h1, r1⟩ := r
    exact ⟨a, rfl, .inr ⟨⟨vs, .inl (.inl (k.fh _ _ h1))⟩, q1 F' H' _ e1 (wk_tup h1 r1)⟩⟩
  | non => exact q1.elim
  | bl b => exact q1.elim
  | int b => exact q1.elim
  | str b => exact q1.elim
  | obj c ks vs => exact q1.elim
  | deal => exact q1.elim
theorem ci_range1 {a : Expr} {p pos : Pos} {ma : Rho → R (List D)} (hm : X.mg "range" = none) (ha : PA X [a] (yA X.kx B ma)) (hg : Gl X "range" := by rfl) (hs : starEach [a] X.env = [(false, eval a X.env)] := by rfl) :
    PI X tg (.Call (.Name "range" p) [a] [] pos) (yI X.kx B (mArgs dRange1 ma)) := pi_imp (pi_range1 hg hm ha hs) fun σ H T ⟨F, ρ, ok, q⟩ => seqA ok q fun ds F' H' vs e1 r q1 => by
  unfold dRange1 at q1
  split at q1
  · rename_i j
    obtain ⟨hb, q1⟩ := R.all_grd.mp q1
    unfold RpLX RpL at r
    obtain ⟨v, r', rfl, r1, r2⟩ := r
    unfold RpL at r2
    unfold Rp at r1
    subst r1 r2
    exact ⟨j, rfl, hb.1, hb.2, q1 F' H' _ e1 wk_range⟩
  · exact q1.elim
theorem ci_range2 {a b : Expr} {p pos : Pos} {ma : Rho → R (List D)} (hm : X.mg "range" = none) (ha : PA X [a, b] (yA X.kx B ma)) (hg : Gl X "range" := by rfl) (hs : starEach [a, b] X.env = [(false, eval a X.env), (false, eval b X.env)] := by rfl) (hs2 : starEach [b] X.env = [(false, eval b X.env)] := by rfl) :
    PI X tg (.Call (.Name "range" p) [a, b] [] pos) (yI X.kx B (mArgs dRange2 ma)) := pi_imp (pi_range2 hg hm ha hs hs2) fun σ H T ⟨F, ρ, ok, q⟩ => seqA ok q fun ds F' H' vs e1 r q1 => by
  unfold dRange2 at q1
  split at q1
  · rename_i i j
    obtain ⟨hb, q1⟩ := R.all_grd.mp q1
    unfold RpLX RpL at r
    obtain ⟨v, r', rfl, r1, r2⟩ := r
    unfold RpL at r2
    obtain ⟨v2, r3, rfl, r4, r5⟩ := r2
    unfold RpL at r5
    unfold Rp at r1 r4
    subst r1 r4 r5
    exact ⟨i, j, rfl, ⟨hb.1.1, hb.1.2, hb.2.1, hb.2.2⟩, q1 F' H' _ e1 wk_range⟩
  · exact q1.elim
end

/-! ### for -/
def fLoop (b : D → Rho → R Out) : List D → Rho → R Out
  | [], ρ => .ok (.next ρ)
  | x :: xs, ρ => (b x ρ).bind fun o => match o with
    | .next ρ' => fLoop b xs ρ'
    | .cont ρ' => fLoop b xs ρ'
    | .brk ρ' => .ok (.next ρ')
    | o => .ok o
/-- a turn: the target is stored, then the body -/
def turnM (b : Bnd) (body : Rho → R Out) : D → Rho → R Out := fun x ρ => match b x ρ with
  | some ρ' => body ρ'
  | none => .stuck
def mFor (mi : Rho → R (List D)) (b : Bnd) (body : Rho → R Out) : Rho → R Out := fun ρ => lift ρ (mi ρ) fun xs => fLoop (turnM b body) xs ρ
section
variable {X : Cx} {B : Bx} {tg iter : Expr} {body : List Stmt} {mi : Rho → R (List D)} {b : Bnd} {mb : Rho → R Out} {pos : Pos} {ws : List Nat}
theorem cs_for (hp : PassesOwn (model X.prog X.w) X.A X.env X.xe) (hc : X.calm = true) (hi : PI X tg iter (yI X.kx B mi)) (hg : PG X tg (yG X.kx B ws b)) (hb : PSs X body (yS X.kx B mb))
    (hs : ∀ x, foldedSetIterable iter X.env x = pure x := by intro _; rfl) : PS X (.For tg iter body [] pos) (yS X.kx B (mFor mi b mb)) := ps_imp (ps_for hp hc hi hg hb hs) fun N σ H ⟨F, ρ, ok, q⟩ => by
  refine ⟨F, ρ, ok, R.all_imp (fun ds z => ?_) (fun x z => exc_ok' ok z) (R.all_bx.mp q)⟩
  intro F0 H0 J e0 wk
  refine ⟨fun i m σ1 H1 => ∃ F1 ρ1, Same F0 F1 ∧ Ok X.kx B F1 H1 σ1 ρ1 ∧ i + m = ds.length ∧ (fLoop (turnM b mb) (ds.drop i) ρ1).all (OutOk X.kx B F1 N) (fun _ => False),
    ⟨ds.length, F0, ρ, Same.refl F0, ok.step e0, Nat.zero_add _, outs_mono e0.ff z⟩, fun i m σ1 H1 hw => ?_⟩
  obtain ⟨F1, ρ1, s1, ok1, em, q1⟩ := hw
  by_cases hi : i < ds.length
  · refine .inr ⟨wk.go F1 H1 i s1 ok1.fh hi, fun σ2 H2 => ∃ F2 ρ2, Same F0 F2 ∧ Ok X.kx B F2 H2 σ2 ρ2 ∧ (fLoop (turnM b mb) (ds.drop (i + 1)) ρ2).all (OutOk X.kx B F2 N) (fun _ => False), fun σ2 H2 hn => ?_, fun x H2 hy => ?_⟩
    · obtain ⟨F2, ρ2, s2, ok2, q2⟩ := hn
      exact ⟨m - 1, by omega, F2, ρ2, s2, ok2, by omega, q2⟩
    · obtain ⟨F2, e2, rp⟩ := wk.yld F1 H1 i x H2 ds[i] s1 ok1.fh ok1.dk (List.getElem?_eq_getElem hi) hy
      have ok2 := ok1.step e2
      rw [List.drop_eq_getElem_cons hi] at q1
      unfold fLoop at q1
      have q1 := R.all_bind.mp q1
      unfold turnM at q1
      cases hbd : b ds[i] ρ1 with
      | none =>
        rw [hbd] at q1
        exact q1.elim
      | some ρ2 =>
        rw [hbd] at q1
        refine ⟨F2, ρ1, ds[i], ρ2, ok2, rp, hbd, fun σ3 ok3 _ => ?_⟩
        have s2 : Same F0 F2 := s1.trans e2.ff
        refine ⟨F2, ρ2, ok3, R.all_imp (fun o z2 => ?_) (fun _ z => z) q1⟩
        cases o with
        | next ρ3 => exact fun F3 H3 σ4 s3 ok4 => ⟨F3, ρ3, s2.trans s3, ok4, outs_mono (e2.ff.trans s3) z2⟩
        | cont ρ3 => exact fun F3 H3 σ4 s3 ok4 => ⟨F3, ρ3, s2.trans s3, ok4, outs_mono (e2.ff.trans s3) z2⟩
        | brk ρ3 => exact fun F3 H3 σ4 s3 ok4 => z2 F3 H3 σ4 (e2.ff.trans s3) ok4
        | ret d => exact z2
        | exc x ρ3 => exact fun F3 H3 σ4 c o s3 ok4 => z2 F3 H3 σ4 c o (e2.ff.trans s3) ok4
  · refine .inl ⟨?_, ?_⟩
    · have ei : i = ds.length := by omega
      subst ei
      exact wk.stop F1 H1 s1 ok1.fh
    · rw [List.drop_eq_nil_of_le (by omega)] at q1
      exact q1 F1 H1 σ1 (Same.refl F1) ok1
end
end Y
/-! # Y5 -/
set_option Elab.async false
set_option linter.all false
set_option maxRecDepth 100000
set_option maxHeartbeats 4000000
namespace Y
open PySem PySem.Spec L2

/-! ### while -/
/-- at most so many turns -/
def wIter (t : Rho → R Bool) (b : Rho → R Out) : Nat → Rho → R Out
  | 0, _ => .stuck
  | n + 1, ρ => lift ρ (t ρ) fun c => if c = true then (b ρ).bind fun o => match o with
      | .next ρ' => wIter t b n ρ'
      | .cont ρ' => wIter t b n ρ'
      | .brk ρ' => .ok (.next ρ')
      | o => .ok o
    else .ok (.next ρ)
open Classical in
noncomputable def mWhile (t : Rho → R Bool) (b : Rho → R Out) : Rho → R Out := fun ρ => if h : ∃ n, (wIter t b n ρ).good then wIter t b h.choose ρ else .stuck
section
variable {X : Cx} {B : Bx} {c : Expr} {body : List Stmt} {t : Rho → R Bool} {mb : Rho → R Out} {pos : Pos}
theorem cs_while (hp : PassesOwn (model X.prog X.w) X.A X.env X.xe) (hc : PT X c (yT X.kx B t)) (hb : PSs X body (yS X.kx B mb)) : PS X (.While c body [] pos) (yS X.kx B (mWhile t mb)) := ps_imp (ps_while hp hc hb) fun N σ H ⟨F, ρ, ok, q⟩ => by
  unfold mWhile at q
  split at q
  · rename_i h
    obtain ⟨n, hn⟩ : ∃ n, n = h.choose := ⟨_, rfl⟩
    rw [← hn] at q
    refine ⟨fun m σ1 H1 => ∃ F1 ρ1, Ok X.kx B F1 H1 σ1 ρ1 ∧ (wIter t mb m ρ1).all (OutOk X.kx B F1 N) (fun _ => False), ⟨n, F, ρ, ok, q⟩, fun m σ1 H1 hw => ?_⟩
    obtain ⟨F1, ρ1, ok1, q1⟩ := hw
    cases m with
    | zero => exact q1.elim
    | succ m =>
      unfold wIter at q1
      refine sT ok1 q1 fun b F2 H2 e2 q2 => ?_
      cases b with
      | false =>
        exact q2 F2 H2 σ1 (Same.refl F2) (ok1.step e2)
      | true =>
        refine ⟨fun σ3 H3 => ∃ F3 ρ3, Ok X.kx B F3 H3 σ3 ρ3 ∧ (wIter t mb m ρ3).all (OutOk X.kx B F3 N) (fun _ => False), fun σ3 H3 hn3 => ⟨m, Nat.lt_succ_self m, hn3⟩, F2, ρ1, ok1.step e2, R.all_imp (fun o z2 => ?_) (fun _ z => z) (R.all_bind.mp q2)⟩
        cases o with
        | next ρ3 => exact fun F3 H3 σ4 s3 ok4 => ⟨F3, ρ3, ok4, outs_mono s3 z2⟩
        | cont ρ3 => exact fun F3 H3 σ4 s3 ok4 => ⟨F3, ρ3, ok4, outs_mono s3 z2⟩
        | brk ρ3 => exact z2
        | ret d => exact z2
        | exc x ρ3 => exact z2
  · exact q.elim
end
/-- a run of a while in which nothing is drawn -/
inductive wRun (t : Rho → R Bool) (b : Rho → R Out) : Rho → Out → Prop
  | stop {ρ : Rho} : t ρ = .ok false → wRun t b ρ (.next ρ)
  | next {ρ ρ' : Rho} {o : Out} : t ρ = .ok true → b ρ = .ok (.next ρ') → wRun t b ρ' o → wRun t b ρ o
  | cont {ρ ρ' : Rho} {o : Out} : t ρ = .ok true → b ρ = .ok (.cont ρ') → wRun t b ρ' o → wRun t b ρ o
  | brk {ρ ρ' : Rho} : t ρ = .ok true → b ρ = .ok (.brk ρ') → wRun t b ρ (.next ρ')
  | ret {ρ : Rho} {d : D} : t ρ = .ok true → b ρ = .ok (.ret d) → wRun t b ρ (.ret d)
  | exc {ρ ρ' : Rho} {x : D} : t ρ = .ok true → b ρ = .ok (.exc x ρ') → wRun t b ρ (.exc x ρ')
theorem wRun.some {t : Rho → R Bool} {b : Rho → R Out} {ρ : Rho} {o : Out} (h : wRun t b ρ o) : ∃ n, wIter t b n ρ = .ok o := by
  induction h with
  | stop h1 => exact ⟨1, by rw [wIter, h1]; rfl⟩
  | next h1 h2 _ ih => obtain ⟨n, e⟩ := ih; exact ⟨n + 1, by rw [wIter, h1, lift_ok, if_pos rfl, h2]; exact e⟩
  | cont h1 h2 _ ih => obtain ⟨n, e⟩ := ih; exact ⟨n + 1, by rw [wIter, h1, lift_ok, if_pos rfl, h2]; exact e⟩
  | brk h1 h2 => exact ⟨1, by rw [wIter, h1, lift_ok, if_pos rfl, h2]; rfl⟩
  | ret h1 h2 => exact ⟨1, by rw [wIter, h1, lift_ok, if_pos rfl, h2]; rfl⟩
  | exc h1 h2 => exact ⟨1, by rw [wIter, h1, lift_ok, if_pos rfl, h2]; rfl⟩
theorem wRun.only {t : Rho → R Bool} {b : Rho → R Out} {ρ : Rho} {o : Out} (h : wRun t b ρ o) : ∀ n, (wIter t b n ρ).good → wIter t b n ρ = .ok o := by
  induction h with
  | stop h1 =>
    intro n g
    cases n with
    | zero => exact g.elim
    | succ n => rw [wIter, h1]; rfl
  | next h1 h2 _ ih =>
    intro n g
    cases n with
    | zero => exact g.elim
    | succ n =>
      rw [wIter, h1, lift_ok, if_pos rfl, h2] at g ⊢
      exact ih n g
  | cont h1 h2 _ ih =>
    intro n g
    cases n with
    | zero => exact g.elim
    | succ n =>
      rw [wIter, h1, lift_ok, if_pos rfl, h2] at g ⊢
      exact ih n g
  | brk h1 h2 =>
    intro n g
    cases n with
    | zero => exact g.elim
    | succ n => rw [wIter, h1, lift_ok, if_pos rfl, h2]; rfl
  | ret h1 h2 =>
    intro n g
    cases n with
    | zero => exact g.elim
    | succ n => rw [wIter, h1, lift_ok, if_pos rfl, h2]; rfl
  | exc h1 h2 =>
    intro n g
    cases n with
    | zero => exact g.elim
    | succ n => rw [wIter, h1, lift_ok, if_pos rfl, h2]; rfl
theorem mWhile_run {t : Rho → R Bool} {b : Rho → R Out} {ρ : Rho} {o : Out} (h : wRun t b ρ o) : mWhile t b ρ = .ok o := by
  obtain ⟨n, e⟩ := h.some
  have g : (wIter t b n ρ).good := by rw [e]; trivial
  have hx : ∃ n, (wIter t b n ρ).good := ⟨n, g⟩
  unfold mWhile
  rw [dif_pos hx]
  exact h.only _ hx.choose_spec

/-! ### comprehensions -/
/-- nothing may be raised -/
def R.nb {α β : Type} (t : R α) (f : α → R β) : R β := t.bx (fun _ => .stuck) f
@[simp] theorem R.nb_ok {α β : Type} (a : α) (f : α → R β) : (R.ok a).nb f = f a := rfl
@[simp] theorem R.nb_draw {α β : Type} (b : Int) (k : Int → R α) (f : α → R β) : (R.draw b k).nb f = .draw b fun r => (k r).nb f := rfl
theorem R.all_nb {α β : Type} {P : β → Prop} {E : D → Prop} {f : α → R β} {t : R α} : (t.nb f).all P E ↔ t.all (fun a => (f a).all P E) (fun _ => False) := R.all_bx
def wipeR (ρ : Rho) : List Nat → Rho
  | [] => ρ
  | v :: vs => (wipeR ρ vs).set v .no
def cLoop (b : Bnd) (t : Rho → R Bool) (e : Rho → R D) (ρ : Rho) : List D → R (List D)
  | [] => .ok []
  | x :: xs => match b x ρ with
    | some ρ1 => (t ρ1).nb fun c => if c = true then (e ρ1).nb fun d => (cLoop b t e ρ xs).bind fun ds => .ok (d :: ds) else cLoop b t e ρ xs
    | none => .stuck
def mComp (own : List Nat) (mi : Rho → R (List D)) (b : Bnd) (t : Rho → R Bool) (e : Rho → R D) : Rho → R (List D) := fun ρ => (mi ρ).bind fun xs => R.grd (xs.length ≤ 16777216) (cLoop b t e (wipeR ρ own) xs)
def mYes : Rho → R Bool := fun _ => .ok true
section
variable {X : Cx} {B : Bx} {F H : Hp} {σ : L2.St} {ρ : Rho}
theorem Ok.none (k : Ok X.kx B F H σ ρ) (i : Nat) : Ok X.kx B F H (σ.set i Option.none) (ρ.set i .no) := by
  have k' := k.no i
  refine ⟨k'.ext, k'.df, k'.dk0, by rw [List.length_set]; exact k'.len, fun j s e => ?_, fun j l ds es a ne e1 e2 e3 e4 => ?_⟩
  · by_cases h : i = j
    · subst h
      rw [List.getElem?_set] at e
      simp only [if_true] at e
      split at e
      · cases e; trivial
      · cases e
    · rw [List.getElem?_set_ne h]
      exact k'.sl j s e
  · have h1 : i ≠ j := fun z => by
      subst z
      rw [List.getElem?_set] at e1
      simp only [if_true] at e1
      split at e1 <;> cases e1
    have h2 : i ≠ l := fun z => by
      subst z
      rw [List.getElem?_set] at e2
      simp only [if_true] at e2
      split at e2 <;> cases e2
    rw [List.getElem?_set_ne h1] at e3
    rw [List.getElem?_set_ne h2] at e4
    exact k'.inj j l ds es a ne e1 e2 e3 e4
theorem Ok.wipe (k : Ok X.kx B F H σ ρ) : ∀ vs : List Nat, Ok X.kx B F H (L2.wipe σ vs) (wipeR ρ vs)
  | [] => k
  | v :: vs => (k.wipe vs).none v
/-- no exception leaves a block -/
abbrev Bx.blk (B : Bx) : Bx := { B with W := fun _ _ _ _ => False }
theorem Ok.blk (k : Ok X.kx B F H σ ρ) : Ok X.kx B.blk F H σ ρ := ⟨k.ext, k.df, k.dk0, k.len, k.sl, k.inj⟩
theorem Ok.unblk (k : Ok X.kx B.blk F H σ ρ) : Ok X.kx B F H σ ρ := ⟨k.ext, k.df, k.dk0, k.len, k.sl, k.inj⟩
variable {elt tg iter : Expr} {ifs : List Expr} {scope : Scope} {own : List (Str × Nat)} {pos : Pos} {mi : Rho → R (List D)} {b : Bnd} {mt : Rho → R Bool} {me : Rho → R D}
theorem wipe_sub {ws : List Nat} : ∀ {us : List Nat}, (∀ u ∈ us, u ∈ ws) → L2.wipe (L2.wipe σ us) ws = L2.wipe σ ws
  | [], _ => rfl
  | u :: us, h => by
    rw [show L2.wipe σ (u :: us) = (L2.wipe σ us).set u Option.none from rfl, wipe_in (h u (List.mem_cons_self ..))]
    exact wipe_sub fun x hx => h x (List.mem_cons_of_mem _ hx)
/-- something else of one's own is laid or changed -/
theorem Ext.out {dl : DL} {F H F' H' : Hp} (e : Ext dl F H F' H') {A : Addr} (h1 : F' A = Option.none) (h2 : H A = Option.none) (h3 : ¬ Dl dl A) (o : HO) : Ext dl F H F' (upd H' A o) where
  ff := e.ff
  fh := fun b x w => by
    rw [upd_ne (fun z => by subst z; rw [h1] at w; cases w)]
    exact e.fh b x w
  hh := fun b x w n => by
    rw [upd_ne (fun z => by subst z; rw [h2] at w; cases w)]
    exact e.hh b x w n
  fr := e.fr
  dk := e.dk.upd h3
def Away (σ : L2.St) (ρ : Rho) (A : Addr) : Prop := ∀ (i : Nat) (ds : List D), ρ[i]? = some (.ow ds) → σ[i]? ≠ some (some (.ref A))
theorem Ok.away (k : Ok X.kx B F H σ ρ) {A : Addr} (h : H A = Option.none) : Away σ ρ A := fun i ds e z => by
  obtain ⟨a, vs, ea, _, q, _⟩ := k.sl i _ e
  rw [z] at ea
  cases ea
  rw [h] at q; cases q
theorem Ok.out (k : Ok X.kx B F H σ ρ) {A : Addr} (aw : Away σ ρ A) (h1 : F A = Option.none) (h2 : B.H A = Option.none) (h3 : ¬ Dl B.dl A) (o : HO) : Ok X.kx B F (upd H A o) σ ρ :=
  ⟨k.ext.out h1 h2 h3 o, k.df, k.dk0, k.len, fun i s e => by
    cases s with
    | no => trivial
    | sh d => exact k.sl i _ e
    | ow ds =>
      obtain ⟨a, vs, ea, p, q, r⟩ := k.sl i _ e
      refine ⟨a, vs, ea, p, ?_, r⟩
      rw [upd_ne (fun z => by subst z; exact aw i ds e ea)]
      exact q, k.inj⟩
theorem Ext.none_of {dl : DL} {F H F' H' : Hp} (e : Ext dl F H F' H') {A : Addr} {o : HO} (h1 : F A = Option.none) (h2 : H A = some o) : F' A = Option.none := by
  cases z : F' A with
  | none => rfl
  | some u =>
    exfalso
    rcases e.fr A u z with y | y
    · rw [h1] at y; cases y
    · rw [h2] at y; cases y
/-- what a comprehension's turns ask, by data -/
theorem lc_read {ws : List Nat} {Q : VK} (h : yO X.kx B (mComp ws mi b mt me) σ H Q) : tLc (yI X.kx B mi) (yG X.kx B.blk ws b) (yT X.kx B.blk mt) (yE X.kx B.blk me) ws σ H Q := by
  obtain ⟨F, ρ, ok, q⟩ := h
  refine ⟨F, ρ, ok, R.all_imp (fun xs z => ?_) (fun _ z => z) (R.all_bind.mp q)⟩
  obtain ⟨hl, z⟩ := R.all_grd.mp z
  intro F0 H0 J e0 wk A hA
  have ok0 := ok.step e0
  have hF0 : F0 A = Option.none := same_none ok0.fh hA
  have hHA : H A = Option.none := e0.new_old hA
  have hBA : B.H A = Option.none := ok.ext.new_old hHA
  have hd : ¬ Dl B.dl A := ok0.dk.nof hA
  have aw : Away σ ρ A := ok0.away hA
  -- what is left to be made, with what has been made
  refine ⟨fun i m H1 => ∃ F1 acc ds, Ext B.dl F H F1 H1 ∧ Same F0 F1 ∧ Ok X.kx B F1 H1 σ ρ ∧ F1 A = Option.none ∧ H1 A = some (.lst acc) ∧ RpLX X.kx B F1 ds acc ∧ ds.length ≤ i ∧ i + m = xs.length ∧
      (cLoop b mt me (wipeR ρ ws) (xs.drop i)).all (fun es => PO1 X.kx B F H Q (ds ++ es)) (XpE X.kx B F H σ),
    ⟨xs.length, F0, [], [], e0.out hF0 hHA hd _, Same.refl F0, ok0.out aw hF0 hBA hd _, hF0, upd_same, RpL.nil, Nat.le_refl _, Nat.zero_add _, z⟩, ?_⟩
  rintro i m H1 ⟨F1, acc, ds, e1, s1, ok1, n1, hacc, rl, li, em, q1⟩
  by_cases hi : i < xs.length
  · refine .inr ⟨wk.go F1 H1 i s1 ok1.fh hi, fun H2 => ∃ F1 acc ds, Ext B.dl F H F1 H2 ∧ Same F0 F1 ∧ Ok X.kx B F1 H2 σ ρ ∧ F1 A = Option.none ∧ H2 A = some (.lst acc) ∧ RpLX X.kx B F1 ds acc ∧ ds.length ≤ i + 1 ∧
      (cLoop b mt me (wipeR ρ ws) (xs.drop (i + 1))).all (fun es => PO1 X.kx B F H Q (ds ++ es)) (XpE X.kx B F H σ), ?_, fun x H2 hy => ?_⟩
    · rintro H2 ⟨F2, acc2, ds2, g1, g2, g3, g4, g5, g6, g7, g8⟩
      exact ⟨m - 1, by omega, F2, acc2, ds2, g1, g2, g3, g4, g5, g6, g7, by omega, g8⟩
    · obtain ⟨F2, e2, rp⟩ := wk.yld F1 H1 i x H2 xs[i] s1 ok1.fh ok1.dk (List.getElem?_eq_getElem hi) hy
      rw [List.drop_eq_getElem_cons hi] at q1
      unfold cLoop at q1
      cases hbd : b xs[i] (wipeR ρ ws) with
      | none =>
        rw [hbd] at q1
        exact q1.elim
      | some ρ1 =>
        rw [hbd] at q1
        have ok2 := ok1.step e2
        refine ⟨F2, wipeR ρ ws, xs[i], ρ1, (ok2.wipe ws).blk, rp, hbd, fun σ2 ok3 hw => ⟨hw.trans (wipe_sub fun _ z => z), F2, ρ1, ok3, R.all_imp (fun c z2 => ?_) (fun _ z => z.elim) (R.all_nb.mp q1)⟩⟩
        intro F3 H3 e3
        have e13 := e2.trans e3
        cases c with
        | false =>
          exact ⟨F3, acc, ds, e1.trans e13, s1.trans e13.ff, ok1.step e13, e13.none_of n1 hacc, e13.hh A _ hacc hd, RpL.mono e13.ff _ _ rl, by omega, z2⟩
        | true =>
          refine ⟨F3, ρ1, ok3.step e3, R.all_imp (fun d z3 => ?_) (fun _ z => z.elim) (R.all_nb.mp z2)⟩
          intro F4 H4 y e4 ry
          have e14 := e13.trans e4
          have n4 := e14.none_of n1 hacc
          refine ⟨acc, e14.hh A _ hacc hd, ?_, F4, acc ++ [y], ds ++ [d], (e1.trans e14).out n4 hHA hd _, s1.trans e14.ff, (ok1.step e14).out aw n4 hBA hd _, n4, upd_same, RpL.append (RpL.mono e14.ff _ _ rl) (RpL.cons ry RpL.nil), ?_, ?_⟩
          · rw [szl, RpL.length rl]
            omega
          · rw [List.length_append]
            show ds.length + 1 ≤ i + 1
            omega
          · refine R.all_imp (fun es w => ?_) (fun _ w => w) (R.all_bind.mp z3)
            rw [List.append_assoc]
            exact w
  · refine .inl ⟨?_, ?_⟩
    · have ei : i = xs.length := by omega
      subst ei
      exact wk.stop F1 H1 s1 ok1.fh
    · rw [List.drop_eq_nil_of_le (by omega)] at q1
      have q2 : PO1 X.kx B F H Q (ds ++ []) := q1
      rw [List.append_nil] at q2
      exact q2 F1 H1 A acc e1 n1 hHA hacc rl
abbrev Cx.bk (X : Cx) (s : Shared) (H : Hp) (scope : Scope) (C : Addr) (cl : List (Str × Addr)) (fp : List Addr) : Cx := X.blk s H scope (compEnvC scope cl C X.env) fp
theorem co_lc (hc : X.calm = true) (hN : X.N.Nodup) (own : List (Str × Nat)) (hi : PI X tg iter (yI X.kx B mi)) (ok : BlkOk X.N X.env.scope scope own)
    (hg : ∀ (s : Shared) (H : Hp) (C : Addr) (cl : List (Str × Addr)) (fp : List Addr), PG (X.blk s H scope (compEnvC scope cl C X.env) fp) tg (yG X.kx B.blk (own.map (·.2)) b))
    (ht : ∀ (s : Shared) (H : Hp) (C : Addr) (cl : List (Str × Addr)) (fp : List Addr), PTs (X.blk s H scope (compEnvC scope cl C X.env) fp) ifs (yT X.kx B.blk mt))
    (he : ∀ (s : Shared) (H : Hp) (C : Addr) (cl : List (Str × Addr)) (fp : List Addr), PE (X.blk s H scope (compEnvC scope cl C X.env) fp) elt (yE X.kx B.blk me)) (hs : ∀ x, foldedSetIterable iter X.env x = pure x := by intro _; rfl) :
    PE X (.ListComp elt [⟨tg, iter, ifs, 0⟩] scope pos) (yO X.kx B (mComp (own.map (·.2)) mi b mt me)) := by
  have h := pe_lc (wi := yI X.kx B mi) (g := yG X.kx B.blk (own.map fun p : Str × Nat => p.2) b) (tt := yT X.kx B.blk mt) (te := yE X.kx B.blk me) (pos := pos) hc hN hi ok hg ht he hs
  exact pe_imp h fun σ H Q q => lc_read q
/-- y = [..] on one line -/
theorem cs_lc (i : Nat) {y : Str} {py spos : Pos} (hc : X.calm = true) (hN : X.N.Nodup) (own : List (Str × Nat)) (hi : PI X tg iter (yI X.kx B mi)) (ok : BlkOk X.N X.env.scope scope own)
    (hg : ∀ (s : Shared) (H : Hp) (C : Addr) (cl : List (Str × Addr)) (fp : List Addr), PG (X.blk s H scope (compEnvC scope cl C X.env) fp) tg (yG X.kx B.blk (own.map (·.2)) b))
    (ht : ∀ (s : Shared) (H : Hp) (C : Addr) (cl : List (Str × Addr)) (fp : List Addr), PTs (X.blk s H scope (compEnvC scope cl C X.env) fp) ifs (yT X.kx B.blk mt))
    (he : ∀ (s : Shared) (H : Hp) (C : Addr) (cl : List (Str × Addr)) (fp : List Addr), PE (X.blk s H scope (compEnvC scope cl C X.env) fp) elt (yE X.kx B.blk me))
    (hy : X.N[i]? = some y := by rfl) (hyl : X.env.scope.names.lookup y = some .local := by rfl) (hsw : swapsWith (.ListComp elt [⟨tg, iter, ifs, 0⟩] scope pos) (some (.Name y py)) spos.line X.env = pure true := by exact sw_true rfl rfl rfl (by decide +kernel)) (hs : ∀ x, foldedSetIterable iter X.env x = pure x := by intro _; rfl) :
    PS X (.Assign [.Name y py] (.ListComp elt [⟨tg, iter, ifs, 0⟩] scope pos) spos) (yS X.kx B (mOwn i (mComp (own.map (·.2)) mi b mt me))) := by
  have h := ps_setLc (i := i) (wi := yI X.kx B mi) (g := yG X.kx B.blk (own.map fun p : Str × Nat => p.2) b) (tt := yT X.kx B.blk mt) (te := yE X.kx B.blk me) (pos := pos) (py := py) hc hN hy hyl hsw hi ok hg ht he hs
  exact ps_imp h (own_read fun σ H Q q => lc_read q)
end
end Y
/-! # Y6 -/
set_option Elab.async false
set_option linter.all false
set_option maxRecDepth 100000
set_option maxHeartbeats 4000000
namespace Y
open PySem PySem.Spec L2
open PyProof.Rows hiding St

/-! ### room to run in: also no repr is under way -/
structure RG (k : Nat) (A : Around) : Prop where
  room : Room k A
  grd : A.guards = some []
theorem RG.mono {j k : Nat} {A : Around} (r : RG k A) (h : j ≤ k) : RG j A := ⟨r.room.mono h, r.grd⟩
theorem RG.deeper {k : Nat} {A : Around} (r : RG (k + 1) A) (env : Env) : RG k (A.deeper env) := ⟨r.room.deeper env, r.grd⟩
/-- a def's promise, kept wherever there is such room -/
structure FnG (P : Program) (w : World) (K : PySem.W.Frag) (mg : Str → Option Value) (base : Heap) (k : Nat) (f : Addr) (fd : FuncData) (ps : List Str) (sp : Sp) : Prop where
  len : ∀ vs H Q E, sp vs H Q E → vs.length = ps.length
  run : ∀ (A : Around) (outer : List Env) (s : Shared) (H : Hp) (args : Args) (us : List Value) (vs : List V) (Q : VK) (E : XK), RG k A → Env0 P w K mg base A outer s H → BindsTo s fd args (ps.zip us) → Vals vs us → sp vs H Q E →
    codeAny (model P w) A (.call (.ref f) args) (CR (L2.CX P w) outer P w H s Q E) s
theorem FnG.of {P : Program} {w : World} {K : PySem.W.Frag} {mg : Str → Option Value} {base : Heap} {k : Nat} {f : Addr} {fd : FuncData} {ps : List Str} {sp : Sp} (F : FnOk P w K mg base (L2.CX P w) k f fd ps sp) : FnG P w K mg base k f fd ps sp :=
  ⟨F.len, fun A outer s H args us vs Q E r => F.run A outer s H args us vs Q E r.room⟩
abbrev cxF (P : Program) (w : World) (K : PySem.W.Frag) (mg : Str → Option Value) (base : Heap) (N : List Str) (qual : Str) (scope : Scope) (f : Addr) (cd : Value) (A : Around) (outer : List Env) (s : Shared) (H : Hp) (E : XK) : Cx := cxOf (L2.CX P w) P w K mg base N qual scope f cd A outer s H E
section
variable {P : Program} {w : World} {K : PySem.W.Frag} {mg : Str → Option Value} {base : Heap}
/-- a def by its body -/
theorem fnG_of {x qual : Str} {st : Stmt} {f : Addr} {fd : FuncData} {N ps : List Str} {k : Nat} {sp : Sp} (F : Fun K x qual st f fd) (S : FnScope N ps (defScope st)) (len : ∀ vs H Q E, sp vs H Q E → vs.length = ps.length)
    (body : ∀ (cdv : Value) (A : Around) (outer : List Env) (s : Shared) (H : Hp) (vs : List V) (Q : VK) (E : XK), RG k (A.deeper (envOfC qual (defScope st) s.heap.objs.size f cdv)) → sp vs H Q E →
      ∃ t, PSs (cxF P w K mg base N qual (defScope st) f cdv A outer s H E) (defBody st) t ∧ t { nx := fun _ H' => Q .non H', rt := Q } (start N vs) H) : FnG P w K mg base (k + 1) f fd ps sp := by
  obtain ⟨oc, od, kV, doc, pm, an, cdv, ct, osl, rfl, lk, hcd⟩ := F.ex
  refine ⟨len, fun A outer s H args us vs Q E rg e0 bd rv hs => ?_⟩
  have el := len _ _ _ _ hs
  have inK : K.In s.heap := e0.mod.kin.keeps fun b o z => (e0.bs b o z).1
  have noL : s.heap.NoLimit := e0.mod.nolimit.keeps fun b o z => (e0.bs b o z).1
  have kinds : ∀ y ∈ ps.zip us, (defScope st).names.lookup y.1 = some .local ∨ ((defScope st).names.lookup y.1 = some .cell ∧ ((cellsFrom (s.heap.objs.size + 1) (defScope st).names []).lookup y.1).isSome = true) := by
    rintro ⟨n, v⟩ hy
    rcases S.par n (List.of_mem_zip hy).1 with z | z
    · exact .inl z
    · exact .inr ⟨z, PySem.W.cellsFrom_some _ _ _ (.inl z)⟩
  refine codeAny_call_function rg.room.depth (inK _ _ lk) rfl S.co S.gen rfl (PySem.W.codeRec_of inK hcd) (bd _ _ _ _ ?_)
  refine wpAny_newFunctionEnv_cells S.kind kinds fun env ee s1 xc => ?_
  subst ee
  refine ⟨noL.keeps xc.toInCall.keep, codeAny_func ?_⟩
  obtain ⟨t, pt, q⟩ := body cdv A outer s H vs Q E (rg.deeper _) hs
  have I0 : L2.Inv (cxF P w K mg base N qual (defScope st) f cdv A outer s H E) [] (start N vs) H s1 := inv_start S rg.room.hd e0 el rv xc
  have done : ∀ {s' : Shared} {σ' : L2.St} {H' : Hp} {v : V} {u : Value}, L2.Inv (cxF P w K mg base N qual (defScope st) f cdv A outer s H E) [] σ' H' s' → RelV v u → Q v H' → CE outer P w H s Q u s' :=
    fun {s' σ' H' v u} J rr qq => ⟨v, H', J.os, J.bare, J.base, J.hok, rr, qq⟩
  refine wpAny_mono (pt.run [] s1 (start N vs) H _ I0 q) (fun fl s' z => ?_) fun _ _ z => z
  cases fl with
  | next =>
    obtain ⟨σ', H', J, qq⟩ := z
    exact done (v := V.non) (u := Value.none) J rfl qq
  | ret u =>
    obtain ⟨v, σ', H', J, rr, qq⟩ := z
    exact done J rr qq
  | brk =>
    obtain ⟨_, _, _, no⟩ := z
    exact False.elim no
  | cont =>
    obtain ⟨_, _, _, no⟩ := z
    exact False.elim no
end
section
variable {X : Cx} {k : Nat} {f : Addr} {fd : FuncData} {ps : List Str} {sp : Sp} {E : L2.St → XK} {x : Str} {p pos : Pos} {e : Expr} {es : List Expr} {t : TA}
/-- the callee runs; what it lets out is taken at these slots -/
theorem runG {pins : List (Addr × Obj)} {σ : L2.St} {H : Hp} {s : Shared} {Q : VK} {us : List Value} {vs : List V} (F : FnG X.prog X.w X.K X.mg X.base k f fd ps sp) (rg : RG k X.A) (hb : Binds X.K fd ps []) (hx : PassesAt (L2.CX X.prog X.w) X σ (E σ))
    (I : L2.Inv X pins σ H s) (r : Vals vs us) (h : sp vs H Q (E σ)) : wpAny (model X.prog X.w) X.A (call (.ref f) us) (EP X pins σ Q) X.xe s := by
  have el : us.length = ps.length := by
    rw [← r.length]
    exact F.len _ _ _ _ h
  have bb := hb s us I.kIn (by rw [List.append_nil]; exact el)
  rw [List.append_nil] at bb
  refine wpAny_call (codeAny_mono (F.run X.A X.stack s H ⟨us, []⟩ us vs Q (E σ) rg I.env0 bb r h) fun z s' hz => ?_)
  rcases z with z | z
  · exact hx pins H s z s' I hz
  · cases z with
    | ret u => exact I.after hz
    | next => exact False.elim hz
    | brk => exact False.elim hz
    | cont => exact False.elim hz
theorem pe_callG (F : FnG X.prog X.w X.K X.mg X.base k f fd ps sp) (rg : RG k X.A) (hg : Gl X x) (hm : X.mg x = some (.ref f)) (hk : PySem.W.keepIn X.K (.ref f) = true) (hb : Binds X.K fd ps []) (hx : ∀ σ, PassesAt (L2.CX X.prog X.w) X σ (E σ))
    (ha : PA X (e :: es) t) (hdb : (x == ("__debug__" : Str)) = false) (he : starEach (e :: es) X.env = (false, eval e X.env) :: starEach es X.env) (hpl : (backTo pos (starEach es X.env)).any (·.1) = false) :
    PE X (.Call (.Name x p) (e :: es) [] pos) (tCallS sp E t) := ⟨fun pins s σ H Q I h => wpAny_Call_Name_kw (ld_glob I hg hm (PySem.W.callWith_K (h₀ := X.base) I.ok.mod.kin hk
  (thn (ha.run pos pins s σ H _ I h) fun us s1 ⟨vs, H1, I1, r, q⟩ => ⟨I1.kIn, runG F rg hb (hx σ) I1 r q⟩) he hpl) hdb)⟩
end

/-! ### the law's call -/
section
variable {P : Program} {w : World} {K : PySem.W.Frag} {mg mb : Str → Option Value} {k : Nat} {fa a : Addr} {fd : FuncData} {x : Str} {sp : Sp} {s1 : Shared} {vs : List Value} {ns : List Int}
/-- from an abstract heap in which at most the script is tracked -/
theorem lawG_at (KX : K.In s1.heap) (hns : s1.heap.Ns mainGlobals mg) (hb : s1.heap.Ns builtinsNs mb) (hbb : ∀ x : Str, x ≠ "__name__" → mb x = bootBuiltins x) (hlim : s1.heap.NoLimit) (hg : s1.gens = #[])
    (ha : s1.heap.get? a = some { cls := .type "list", data := .seq vs.toArray }) (hr : RG k callerA)
    (F : ∀ base : Heap, K.In base → base.Ns mainGlobals mg → FnG P w K mg base k fa fd [x] sp) (hbind : ∀ (s : Shared) (u : Value), BindsTo s fd ⟨[u], []⟩ [(x, u)])
    {H : Hp} (only : ∀ b, H b = none ∨ b = a ∧ ∃ o xs, H b = some (.frz o (.lst xs))) (hok : HOk P w H s1.heap) (hK : H a ≠ none → K.lookup a = none)
    (hsp : sp [.ref a] H (fun v _ => v = .bl true) fun _ _ _ => False) :
    codeAny (model P w) callerA (.call (.ref fa) ⟨[.ref a], []⟩) (fun r s' => r = .ok (.ret (.bool true)) ∧ OldK s1.heap s'.heap ∧ s'.os = s1.os ∧ AllBare s'.gens) s1 := by
  have hidden : ∀ {b : Addr} {o : Obj}, s1.heap.get? b = some o → H b = none → (hidT s1.heap H).get? b = some o := fun z n => hidT_get z n
  have nodict : ∀ {b : Addr} {o : Obj} {es : Array DictEntry} {ep : Nat}, s1.heap.get? b = some o → o.data = .dict es ep → H b = none := fun {b o es ep} z d => by
    rcases only b with q | ⟨rfl, _⟩
    · exact q
    · rw [ha] at z
      cases z
      cases (show Data.seq vs.toArray _ = Data.dict es ep from d)
  have ns_of : ∀ {b : Addr} {m : Str → Option Value}, s1.heap.Ns b m → (hidT s1.heap H).Ns b m := by
    rintro b m ⟨o, es, ep, z, d, r⟩
    exact ⟨o, es, ep, hidden z (nodict z d), d, r⟩
  have inK : K.In (hidT s1.heap H) := fun b o z => hidden (KX b o z) (by
    rcases only b with q | ⟨rfl, o', xs, q⟩
    · exact q
    · rw [hK (by rw [q]; exact fun y => nomatch y)] at z
      cases z)
  have md : Mod K mg (hidT s1.heap H) := by
    obtain ⟨mc, l1, l2⟩ := hlim
    exact ⟨inK, ns_of hns, ⟨mb, ns_of hb, hbb⟩, ⟨mc, ns_of l1, l2⟩⟩
  have e0 : Env0 P w K mg (hidT s1.heap H) callerA [] s1 H := ⟨rfl, md, fun b o z => of_hidT z, Nat.le_of_eq (hidT_size _ _), trivial, fun b z => absurd z List.not_mem_nil, hok, .of_eq hg⟩
  refine codeAny_mono ((F _ inK (ns_of hns)).run callerA [] s1 H ⟨[.ref a], []⟩ [.ref a] [.ref a] _ _ hr e0 (hbind s1 (.ref a)) (.cons rfl .nil) hsp) fun r s' z => ?_
  rcases r with er | fl
  · obtain ⟨_, _, _, _, _, _, _, _, _, _, _, _, no⟩ := z
    exact no.elim
  · cases fl with
    | next => exact False.elim z
    | brk => exact False.elim z
    | cont => exact False.elim z
    | ret u =>
      obtain ⟨v, H', os, bare, un, hok', ru, qv⟩ := z
      obtain rfl : v = .bl true := qv
      obtain rfl : u = Value.bool true := ru
      refine ⟨rfl, OldK.of_keep fun b o z => ?_, os, bare⟩
      rcases only b with q | ⟨rfl, o', xs, q⟩
      · exact un.keep b o z q List.not_mem_nil List.not_mem_nil
      · have y1 := (hok b _ q).1
        have y2 := (hok' b _ (un.frzs b o' _ q)).1
        rw [z] at y1
        cases y1
        exact y2
theorem lawG_call (KX : K.In s1.heap) (hns : s1.heap.Ns mainGlobals mg) (hb : s1.heap.Ns builtinsNs mb) (hbb : ∀ x : Str, x ≠ "__name__" → mb x = bootBuiltins x) (hlim : s1.heap.NoLimit) (hg : s1.gens = #[])
    (ha : s1.heap.get? a = some { cls := .type "list", data := .seq vs.toArray }) (hi : IntsAre vs ns) (hl : ns.length ≤ sizeLine) (hr : RG k callerA)
    (F : ∀ base : Heap, K.In base → base.Ns mainGlobals mg → FnG P w K mg base k fa fd [x] sp) (hbind : ∀ (s : Shared) (u : Value), BindsTo s fd ⟨[u], []⟩ [(x, u)])
    (hsp : ∀ H : Hp, SqL K H a (ns.map V.int) → sp [.ref a] H (fun v _ => v = .bl true) fun _ _ _ => False) :
    codeAny (model P w) callerA (.call (.ref fa) ⟨[.ref a], []⟩) (fun r s' => r = .ok (.ret (.bool true)) ∧ OldK s1.heap s'.heap ∧ s'.os = s1.os ∧ AllBare s'.gens) s1 := by
  have rv := vals_ints hi
  have ln := hi.length
  cases hk : K.lookup a with
  | some o =>
    have z := KX a o hk
    rw [ha] at z
    cases z
    have sq : SqL K (fun _ => none) a (ns.map V.int) := .inr ⟨_, vs.toArray, _, hk, rfl, rfl, rfl, by rw [List.size_toArray, ln]; exact hl, by simpa using rv⟩
    exact lawG_at KX hns hb hbb hlim hg ha hr F hbind (H := fun _ => none) (fun _ => .inl rfl) (fun b u z => nomatch (show (none : Option HO) = some u from z)) (fun z => absurd rfl z) (hsp _ sq)
  | none =>
    obtain ⟨H, eH⟩ : ∃ H : Hp, H = upd (fun _ => none) a (.frz { cls := .type "list", data := .seq vs.toArray } (.lst (ns.map V.int))) := ⟨_, rfl⟩
    have at_a : H a = some (.frz { cls := .type "list", data := .seq vs.toArray } (.lst (ns.map V.int))) := by rw [eH, upd_same]
    have off : ∀ b, b ≠ a → H b = none := fun b ne => by rw [eH, upd_ne ne]
    refine lawG_at KX hns hb hbb hlim hg ha hr F hbind (H := H) (fun b => ?_) (fun b u z => ?_) (fun _ => hk) (hsp H (.inl (.inr ⟨_, at_a⟩)))
    · by_cases e : b = a
      · subst e
        exact .inr ⟨rfl, _, _, at_a⟩
      · exact .inl (off b e)
    · by_cases e : b = a
      · subst e
        rw [at_a] at z
        cases z
        exact ⟨ha, by rw [List.length_map]; exact hl, vs, _, rv, ha⟩
      · rw [off b e] at z
        cases z
end
/-- the goal that k_head leaves, from the law's promise -/
theorem walkG {l : PySem.W.OpenLaw} {n k : Nat} {q : Program} {loose : List Str} {XP : (Str → Option Value) → Heap → Prop} {YP : World → Heap → Prop} {d : DefRec} {K : Params → PySem.W.Frag} {sp : World → Sp} {x : Str}
    (hn : l.most = some n) (hn2 : n ≤ sizeLine) (hdf : d.params.defaults = []) (hr : RG k callerA) (hY : ∀ (w : World) (h : Heap), YP w h → (K w.params).In h)
    (F : ∀ (w : World) (mg : Str → Option Value) (fa : Addr) (h : Heap), (K w.params).In h → h.Ns mainGlobals mg → mg d.name = some (.ref fa) →
      ∃ fd : FuncData, (∀ (s : Shared) (u : Value), BindsTo s fd ⟨[u], []⟩ [(x, u)]) ∧ ∀ base : Heap, (K w.params).In base → base.Ns mainGlobals mg → FnG l.prog w (K w.params) mg base k fa fd [x] (sp w))
    (hsp : ∀ (w : World) (H : Hp) (a : Addr) (ns : List Int), ns.length ≤ n → SqL (K w.params) H a (ns.map V.int) → sp w [.ref a] H (fun v _ => v = .bl true) fun _ _ _ => False) :
    PySem.W.WalkO q loose XP YP l.row.toRowW d [] (fun f vs => PySem.call f vs) := by
  refine Att.attach_call hn hdf fun w s₀ s₁ mg mb fa o pm cd doc a vs ns G Y ho hd hcd hmg hobj hints hlen hg => ?_
  obtain ⟨fd, bd, hF⟩ := F w mg fa _ (hY w _ Y) G.T.g hmg
  exact lawG_call (hY w _ Y) G.T.g G.T.b G.T.builtins G.T.nolimit hg hobj hints (Nat.le_trans hlen hn2) hr hF bd fun H hS => hsp w H a ns hlen hS

/-! ### defs -/
/-- a def's promise, by data: from any such arguments it does what m says -/
def spD (Z : Kx) (n : Nat) (m : List D → R D) : Sp := fun vs H Q E => ∃ dl F ds, ds.length = n ∧ Same F H ∧ DealOk dl H ∧ (∀ b, Dl dl b → F b = none) ∧ RpL Z.mg dl F ds vs ∧
  (m ds).all (fun d => ∀ F' H' v, Ext dl F H F' H' → Rp Z.mg dl F' d v → Q v H') (fun x => ∀ F' H' c o, Ext dl F H F' H' → Ex Z ⟨dl, F, H, fun _ _ _ _ => False⟩ F' x c o → E c o H')
def endM : Out → R D
  | .next _ => .ok .non
  | .ret d => .ok d
  | .exc x _ => .exn x
  | _ => .stuck
/-- a body as a function of the arguments; N names, n of them parameters -/
def mFun (N n : Nat) (mb : Rho → R Out) : List D → R D := fun ds => (mb (ds.map Sl.sh ++ List.replicate (N - n) Sl.no)).nb endM
/-- a def of the text, callable by its name -/
def Cal (P : Program) (w : World) (K : PySem.W.Frag) (mg : Str → Option Value) (base : Heap) (k : Nat) (x : Str) (n : Nat) (m : List D → R D) : Prop :=
  ∃ f fd ps, FnG P w K mg base k f fd ps (spD ⟨K, mg⟩ n m) ∧ mg x = some (.ref f) ∧ PySem.W.keepIn K (.ref f) = true ∧ Binds K fd ps []
def mCall (n : Nat) (m : List D → R D) (ma : Rho → R (List D)) : Rho → R D := fun ρ => (ma ρ).bind fun ds => R.grd (ds.length = n) (m ds)
section
variable {X : Cx} {B : Bx} {k j n : Nat} {x : Str} {p pos : Pos} {e : Expr} {es : List Expr} {m : List D → R D} {ma : Rho → R (List D)}
theorem ce_call (G : Cal X.prog X.w X.K X.mg X.base j x n m) (hr : RG k X.A) (hj : j ≤ k) (tk : Takes X B.W) (ha : PA X (e :: es) (yA X.kx B ma)) (hg : Gl X x := by rfl) (hdb : (x == ("__debug__" : Str)) = false := by decide) (he : starEach (e :: es) X.env = (false, eval e X.env) :: starEach es X.env := by rfl) (hpl : (backTo pos (starEach es X.env)).any (·.1) = false := by rfl) :
    PE X (.Call (.Name x p) (e :: es) [] pos) (yE X.kx B (mCall n m ma)) := by
  obtain ⟨f, fd, ps, F, hm, hk, hb⟩ := G
  refine pe_imp (pe_callG F (hr.mono hj) hg hm hk hb (fun σ => passAt tk σ) ha hdb he hpl) fun σ H Q ⟨F, ρ, ok, q⟩ => seqA ok q fun ds F' H' vs e1 r q1 => ?_
  obtain ⟨hl, q1⟩ := R.all_grd.mp q1
  have k1 := ok.step e1
  exact ⟨B.dl, F', ds, hl, k1.fh, k1.dk, k1.df, r, R.all_imp (fun d z F2 H2 v e2 r2 => z F2 H2 v (e1.trans e2) r2) (fun x z F2 H2 c o e2 w => z F2 H2 c o e2 w) q1⟩
end
section
variable {P : Program} {w : World} {K : PySem.W.Frag} {mg : Str → Option Value} {base : Heap}
/-- a body's proof, in any context in which the def may run -/
def BodyOk (P : Program) (w : World) (K : PySem.W.Frag) (mg : Str → Option Value) (base : Heap) (N : List Str) (qual : Str) (st : Stmt) (k : Nat) (mb : Rho → R Out) : Prop :=
  ∀ (f : Addr) (cdv : Value) (A : Around) (outer : List Env) (s : Shared) (H : Hp) (E : XK) (B : Bx), RG k (cxF P w K mg base N qual (defScope st) f cdv A outer s H E).A → Takes (cxF P w K mg base N qual (defScope st) f cdv A outer s H E) B.W →
    PassesOwn (model P w) (cxF P w K mg base N qual (defScope st) f cdv A outer s H E).A (cxF P w K mg base N qual (defScope st) f cdv A outer s H E).env (cxF P w K mg base N qual (defScope st) f cdv A outer s H E).xe →
    PSs (cxF P w K mg base N qual (defScope st) f cdv A outer s H E) (defBody st) (yS ⟨K, mg⟩ B mb)
theorem start_ok {Z : Kx} {dl : DL} {F H : Hp} {W : WX} {ds : List D} {vs : List V} {N : List Str} {n : Nat} (hl : ds.length = n) (sf : Same F H) (dk : DealOk dl H) (df : ∀ b, Dl dl b → F b = none) (r : RpL Z.mg dl F ds vs) : Ok Z ⟨dl, F, H, W⟩ F H (start N vs) (ds.map Sl.sh ++ List.replicate (N.length - n) Sl.no) := by
  have hv : vs.length = n := by rw [RpL.length r, hl]
  refine ⟨.refl sf dk, df, dk, ?_, fun i s e => ?_, fun i j ds' es a ne e1 e2 e3 e4 => ?_⟩
  · unfold L2.start
    rw [List.length_append, List.length_append, List.length_map, List.length_map, List.length_replicate, List.length_replicate, hv, hl]
  · unfold L2.start
    by_cases hi : i < ds.length
    · rw [List.getElem?_append_left (by rw [List.length_map]; exact hi), List.getElem?_map] at e
      rw [List.getElem?_append_left (by rw [List.length_map, RpL.length r]; exact hi), List.getElem?_map]
      rw [List.getElem?_eq_getElem hi] at e
      cases e
      obtain ⟨v, ev, rv⟩ := RpL.get r (List.getElem?_eq_getElem hi)
      rw [ev]
      exact ⟨v, rfl, rv⟩
    · rw [List.getElem?_append_right (by rw [List.length_map]; omega), List.getElem?_replicate] at e
      split at e
      · cases e; trivial
      · cases e
  · exfalso
    by_cases hi : i < ds.length
    · rw [List.getElem?_append_left (by rw [List.length_map]; exact hi), List.getElem?_map, List.getElem?_eq_getElem hi] at e1
      cases e1
    · rw [List.getElem?_append_right (by rw [List.length_map]; omega), List.getElem?_replicate] at e1
      split at e1 <;> cases e1
theorem fn_y {x qual : Str} {st : Stmt} {f : Addr} {fd : FuncData} {N ps : List Str} {k : Nat} {mb : Rho → R Out} (F : Fun K x qual st f fd) (S : FnScope N ps (defScope st)) (hb : BodyOk P w K mg base N qual st k mb) :
    FnG P w K mg base (k + 1) f fd ps (spD ⟨K, mg⟩ ps.length (mFun N.length ps.length mb)) := by
  refine fnG_of F S (fun vs H Q E h => ?_) (fun cdv A outer s H vs Q E hr h => ?_)
  · obtain ⟨dl, F, ds, hl, _, _, _, r, _⟩ := h
    rw [RpL.length r, hl]
  · obtain ⟨dl, F, ds, hl, sf, dk, df, r, q⟩ := h
    refine ⟨yS ⟨K, mg⟩ ⟨dl, F, H, fun c o _ H => E c o H⟩ mb, hb f cdv A outer s H E ⟨dl, F, H, fun c o _ H => E c o H⟩ hr (takes_of rfl rfl rfl rfl) (passes_of rfl), ?_⟩
    refine ⟨F, _, start_ok hl sf dk df r, R.all_imp (fun o z => ?_) (fun _ z => z.elim) (R.all_nb.mp q)⟩
    cases o with
    | next ρ => exact fun F' H' σ' _ k => z F' H' .non k.ext Rp.non
    | ret d => exact z
    | brk ρ => exact z.elim
    | cont ρ => exact z.elim
    | exc x ρ => exact fun F' H' σ' c o _ k q => z F' H' c o k.ext q
theorem cal_y {x qual : Str} {st : Stmt} {f : Addr} {fd : FuncData} {N ps : List Str} {k : Nat} {mb : Rho → R Out} (F : Fun K x qual st f fd) (S : FnScope N ps (defScope st)) (g : mg x = some (.ref f)) (b : Binds K fd ps []) (hb : BodyOk P w K mg base N qual st k mb) :
    Cal P w K mg base (k + 1) x ps.length (mFun N.length ps.length mb) := ⟨f, fd, ps, fn_y F S hb, g, F.kp, b⟩
end
end Y
/-! # Y7 -/
set_option Elab.async false
set_option linter.all false
set_option maxRecDepth 100000
set_option maxHeartbeats 4000000
namespace Y
open PySem PySem.Spec L2

/-! ### operators on data -/
def dAdd : D → D → R D
  | .int i, .int j => .ok (.int (i + j))
  | .lst a, .lst b => R.grd (a.length + b.length ≤ 16777216) (.ok (.lst (a ++ b)))
  | .tup a, .tup b => R.grd (a.length + b.length ≤ 16777216) (.ok (.tup (a ++ b)))
  | .str a, .str b => R.grd (a.length + b.length ≤ 16777216) (.ok (.str (a ++ b)))
  | .int i, .bl k => .ok (.int (i + PyProof.Rows.b2i k))
  | _, _ => .stuck
def dSub : D → D → R D
  | .int i, .int j => .ok (.int (i - j))
  | _, _ => .stuck
def small64 (i : Int) : Prop := -(2 ^ 64) < i ∧ i < 2 ^ 64
instance (i : Int) : Decidable (small64 i) := inferInstanceAs (Decidable (_ ∧ _))
def dMul : D → D → R D
  | .int i, .int j => R.grd (small64 i ∨ small64 j) (.ok (.int (i * j)))
  | .lst a, .int k => R.grd (-(2 ^ 63) ≤ k ∧ k < 2 ^ 63 ∧ a.length * k.toNat ≤ 16777216) (.ok (.lst (List.replicate k.toNat a).flatten))
  | _, _ => .stuck
def dDiv : D → D → R D
  | .int i, .int j => R.grd (0 < j ∧ j < 2 ^ 200) (.ok (.int (i / j)))
  | _, _ => .stuck
def dMod : D → D → R D
  | .int i, .int j => R.grd (0 < j) (.ok (.int (i % j)))
  | _, _ => .stuck
def dPow : D → D → R D
  | .int i, .int j => R.grd (0 ≤ j ∧ j ≤ 1000000 ∧ i.natAbs < 2 ^ 64) (.ok (.int (i ^ j.toNat)))
  | _, _ => .stuck
def dLt : D → D → R D
  | .int i, .int j => .ok (.bl (decide (i < j)))
  | _, _ => .stuck
def dLe : D → D → R D
  | .int i, .int j => .ok (.bl (decide (i ≤ j)))
  | _, _ => .stuck
def dGt : D → D → R D
  | .int i, .int j => .ok (.bl (decide (j < i)))
  | _, _ => .stuck
def dGe : D → D → R D
  | .int i, .int j => .ok (.bl (decide (j ≤ i)))
  | _, _ => .stuck
def dNeg : D → R D
  | .int i => .ok (.int (-i))
  | _ => .stuck
def atD {α : Type} (xs : List α) (i : Int) : Option α := if 0 ≤ i then xs[i.toNat]? else if -(xs.length : Int) ≤ i then xs[(i + xs.length).toNat]? else none
def dIx : D → D → R D
  | .lst a, .int i => match atD a i with
    | some d => .ok d
    | none => .stuck
  | .tup a, .int i => match atD a i with
    | some d => .ok d
    | none => .stuck
  | .str z, .int i => R.grd (z.length ≤ 16777216) (match atD z.cps.toList i with
    | some c => .ok (.str ⟨#[c]⟩)
    | none => .stuck)
  | _, _ => .stuck
theorem atD_eq {α : Type} (xs : List α) (i : Int) {v : α} (h : atD xs i = some v) : atI xs i = some v := by
  unfold atD at h
  unfold atI ixN
  by_cases h0 : 0 ≤ i
  · rw [if_pos h0] at h ⊢
    have hl : i.toNat < xs.length := by
      obtain ⟨hl, _⟩ := List.getElem?_eq_some_iff.mp h
      exact hl
    rw [if_pos (by omega)]
    exact h
  · rw [if_neg h0] at h ⊢
    split at h
    · rename_i h1
      rw [if_pos h1]
      exact h
    · cases h
theorem atD_lt {α : Type} {xs : List α} {i : Int} {v : α} (h : atD xs i = some v) : ∃ j : Nat, xs[j]? = some v ∧ ∀ {β : Type} (ys : List β), ys.length = xs.length → atD ys i = ys[j]? := by
  unfold atD at h
  by_cases h0 : 0 ≤ i
  · rw [if_pos h0] at h
    refine ⟨_, h, fun ys _ => ?_⟩
    unfold atD
    rw [if_pos h0]
  · rw [if_neg h0] at h
    split at h
    · rename_i h1
      refine ⟨_, h, fun ys e => ?_⟩
      unfold atD
      rw [if_neg h0, if_pos (by rw [e]; exact h1), e]
    · cases h
section
variable {Z : Kx} {B : Bx}
theorem RpL.atD {dl : DL} {F : Hp} {ds : List D} {vs : List V} {i : Int} {d : D} (r : RpL Z.mg dl F ds vs) (h : Y.atD ds i = some d) : ∃ v, atI vs i = some v ∧ Rp Z.mg dl F d v := by
  obtain ⟨j, e, k⟩ := atD_lt h
  obtain ⟨v, ev, rv⟩ := RpL.get r e
  refine ⟨v, atD_eq _ _ ?_, rv⟩
  rw [k vs (RpL.length r)]
  exact ev
variable {F H : Hp} {Q : VK} {E : D → Prop}
theorem fin_int {i : Int} (s : Same F H) (k : DealOk B.dl H) (q : PE1 Z B F H Q (.int i)) : Q (.int i) H := q F H _ (.refl s k) (Rp.int i)
theorem fin_bl {i : Bool} (s : Same F H) (k : DealOk B.dl H) (q : PE1 Z B F H Q (.bl i)) : Q (.bl i) H := q F H _ (.refl s k) (Rp.bl i)
theorem fin_str {i : Str} (s : Same F H) (k : DealOk B.dl H) (q : PE1 Z B F H Q (.str i)) : Q (.str i) H := q F H _ (.refl s k) (Rp.str i)
theorem fin_lst {ds : List D} {vs : List V} (s : Same F H) (k : DealOk B.dl H) (r : RpLX Z B F ds vs) (q : PE1 Z B F H Q (.lst ds)) : ∀ p, H p = none → Q (.ref p) (upd H p (.lst vs)) := fun p hp =>
  q _ _ _ (.lay s k hp _) (Rp.lst upd_same (RpL.mono (L2.Same.refl _ |>.trans (same_upd (same_none s hp))) _ _ r))
theorem fin_tup {ds : List D} {vs : List V} (s : Same F H) (k : DealOk B.dl H) (r : RpLX Z B F ds vs) (q : PE1 Z B F H Q (.tup ds)) : ∀ p, H p = none → Q (.ref p) (upd H p (.tup vs)) := fun p hp =>
  q _ _ _ (.lay s k hp _) (Rp.tup upd_same (RpL.mono (same_upd (same_none s hp)) _ _ r))
end
def rAdd (K : PySem.W.Frag) : R2 := fun x y H Q => (rI0 fun i j => .int (i + j)) x y H Q ∨ rCat x y H Q ∨ rCatA K x y H Q ∨ (∃ i j, x = .str i ∧ y = .str j ∧ i.length + j.length ≤ sizeLine ∧ Q (.str (i ++ j)) H) ∨ (∃ i k, x = .int i ∧ y = .bl k ∧ Q (.int (i + PyProof.Rows.b2i k)) H)
section
variable {X : Cx} {B : Bx} {e a b : Expr} {pos : Pos} {m ma mb : Rho → R D}
theorem op_addA : OpR X (binaryOp .Add) (rAdd X.K) := opR_or op_add (opR_or op_cat (opR_or op_catA (opR_or op_add_str op_add_ib)))
theorem opd_add : OpD X.kx B (rAdd X.K) dAdd := fun x y v1 v2 F H Q E s k r1 r2 q => by
  unfold dAdd at q
  split at q
  · cases r1.int; cases r2.int
    exact .inl ⟨_, _, rfl, rfl, fin_int s k q⟩
  · obtain ⟨hl, q⟩ := R.all_grd.mp q
    obtain ⟨p1, vs1, rfl, h1, l1⟩ := r1.lst s
    obtain ⟨p2, vs2, rfl, h2, l2⟩ := r2.lst s
    exact .inr (.inl ⟨p1, p2, vs1, vs2, rfl, rfl, h1, h2, by rw [RpL.length l1, RpL.length l2, szl]; exact hl, fin_lst s k (RpL.append l1 l2) q⟩)
  · obtain ⟨hl, q⟩ := R.all_grd.mp q
    have rr1 := r1
    have rr2 := r2
    obtain ⟨p1, vs1, rfl, h1, l1⟩ := r1.tup s
    obtain ⟨p2, vs2, rfl, h2, l2⟩ := r2.tup s
    refine .inr (.inr (.inl ⟨p1, p2, vs1, vs2, rfl, rfl, .inl (.inl h1), .inl (.inl h2), by rw [RpL.length l1, RpL.length l2, szl]; exact hl, fun e => ?_, fun _ e => ?_, fun _ _ => fin_tup s k (RpL.append l1 l2) q⟩))
    · subst e
      have z := RpL.length l1
      have e0 : _ = [] := List.eq_nil_of_length_eq_zero z.symm
      subst e0
      rcases rr2 with w | ⟨_, _, _, w, _⟩
      · exact q F H _ (.refl s k) w
      · cases w
    · subst e
      have z := RpL.length l2
      have e0 : _ = [] := List.eq_nil_of_length_eq_zero z.symm
      subst e0
      rw [List.append_nil] at q
      rcases rr1 with w | ⟨_, _, _, w, _⟩
      · exact q F H _ (.refl s k) w
      · cases w
  · obtain ⟨hl, q⟩ := R.all_grd.mp q
    cases r1.str; cases r2.str
    exact .inr (.inr (.inr (.inl ⟨_, _, rfl, rfl, by rw [szl]; exact hl, fin_str s k q⟩)))
  · cases r1.int; cases r2.bl
    exact .inr (.inr (.inr (.inr ⟨_, _, rfl, rfl, fin_int s k q⟩)))
  · exact q.elim
theorem opd_sub : OpD X.kx B (rI0 fun i j => .int (i - j)) dSub := fun x y v1 v2 F H Q E s k r1 r2 q => by
  unfold dSub at q
  split at q
  · cases r1.int; cases r2.int
    exact ⟨_, _, rfl, rfl, fin_int s k q⟩
  · exact q.elim
def rMul : R2 := fun x y H Q => (rI CMul fun i j => .int (i * j)) x y H Q ∨ rRep x y H Q
theorem op_mulA : OpR X (binaryOp .Mult) rMul := opR_or op_mul op_rep
theorem RpL.rep {mg : Str → Option Value} {dl : DL} {F : Hp} {ds : List D} {vs : List V} (r : RpL mg dl F ds vs) : ∀ n : Nat, RpL mg dl F (List.replicate n ds).flatten (List.replicate n vs).flatten
  | 0 => RpL.nil
  | n + 1 => by
    rw [List.replicate_succ, List.replicate_succ, List.flatten_cons, List.flatten_cons]
    exact RpL.append r (RpL.rep r n)
theorem opd_mul : OpD X.kx B rMul dMul := fun x y v1 v2 F H Q E s k r1 r2 q => by
  unfold dMul at q
  split at q
  · obtain ⟨hl, q⟩ := R.all_grd.mp q
    cases r1.int; cases r2.int
    exact .inl ⟨_, _, rfl, rfl, hl, fin_int s k q⟩
  · obtain ⟨hl, q⟩ := R.all_grd.mp q
    obtain ⟨p1, vs1, rfl, h1, l1⟩ := r1.lst s
    cases r2.int
    exact .inr ⟨p1, _, vs1, rfl, rfl, h1, hl.1, hl.2.1, by rw [RpL.length l1, szl]; exact hl.2.2, fin_lst s k (RpL.rep l1 _) q⟩
  · exact q.elim
theorem opd_div : OpD X.kx B (rI CDivW fun i j => .int (i / j)) dDiv := fun x y v1 v2 F H Q E s k r1 r2 q => by
  unfold dDiv at q
  split at q
  · rename_i i j
    obtain ⟨hl, q⟩ := R.all_grd.mp q
    cases r1.int; cases r2.int
    refine ⟨_, _, rfl, rfl, wide_div hl.1 (b := 200) ?_ (by decide) (by decide), fin_int s k q⟩
    have h1 := hl.1
    have h2 := hl.2
    omega
  · exact q.elim
theorem opd_mod : OpD X.kx B (rI (fun _ j => 0 < j) fun i j => .int (i % j)) dMod := fun x y v1 v2 F H Q E s k r1 r2 q => by
  unfold dMod at q
  split at q
  · obtain ⟨hl, q⟩ := R.all_grd.mp q
    cases r1.int; cases r2.int
    exact ⟨_, _, rfl, rfl, hl, fin_int s k q⟩
  · exact q.elim
theorem opd_pow : OpD X.kx B (rI CPow fun i j => .int (i ^ j.toNat)) dPow := fun x y v1 v2 F H Q E s k r1 r2 q => by
  unfold dPow at q
  split at q
  · obtain ⟨hl, q⟩ := R.all_grd.mp q
    cases r1.int; cases r2.int
    exact ⟨_, _, rfl, rfl, hl, fin_int s k q⟩
  · exact q.elim
theorem opd_lt : OpD X.kx B (rI0 fun i j => .bl (decide (i < j))) dLt := fun x y v1 v2 F H Q E s k r1 r2 q => by
  unfold dLt at q
  split at q
  · cases r1.int; cases r2.int
    exact ⟨_, _, rfl, rfl, fin_bl s k q⟩
  · exact q.elim
theorem opd_le : OpD X.kx B (rI0 fun i j => .bl (decide (i ≤ j))) dLe := fun x y v1 v2 F H Q E s k r1 r2 q => by
  unfold dLe at q
  split at q
  · cases r1.int; cases r2.int
    exact ⟨_, _, rfl, rfl, fin_bl s k q⟩
  · exact q.elim
theorem opd_gt : OpD X.kx B (rI0 fun i j => .bl (decide (j < i))) dGt := fun x y v1 v2 F H Q E s k r1 r2 q => by
  unfold dGt at q
  split at q
  · cases r1.int; cases r2.int
    exact ⟨_, _, rfl, rfl, fin_bl s k q⟩
  · exact q.elim
theorem opd_ge : OpD X.kx B (rI0 fun i j => .bl (decide (j ≤ i))) dGe := fun x y v1 v2 F H Q E s k r1 r2 q => by
  unfold dGe at q
  split at q
  · cases r1.int; cases r2.int
    exact ⟨_, _, rfl, rfl, fin_bl s k q⟩
  · exact q.elim
theorem RpB.frz_item {F H : Hp} {d : D} {v : V} (s : Same F H) (k : DealOk B.dl H) {Q : VK} (r : RpX X.kx B F d v) (q : PE1 X.kx B F H Q d) : Q v H := q F H v (.refl s k) r
theorem opd_ix : OpD X.kx B (rIx X.K) dIx := fun x y v1 v2 F H Q E s k r1 r2 q => by
  unfold dIx at q
  split at q
  · split at q
    · rename_i d e
      obtain ⟨p1, vs1, rfl, h1, l1⟩ := r1.lst s
      cases r2.int
      obtain ⟨v, ev, rv⟩ := RpL.atD l1 e
      exact .inl ⟨p1, vs1, _, v, rfl, rfl, .inl (.inl h1), ev, q F H v (.refl s k) rv⟩
    · exact q.elim
  · split at q
    · rename_i d e
      obtain ⟨p1, vs1, rfl, h1, l1⟩ := r1.tup s
      cases r2.int
      obtain ⟨v, ev, rv⟩ := RpL.atD l1 e
      exact .inr (.inl ⟨p1, vs1, _, v, rfl, rfl, .inl (.inl h1), ev, q F H v (.refl s k) rv⟩)
    · exact q.elim
  · obtain ⟨hl, q⟩ := R.all_grd.mp q
    split at q
    · rename_i c e
      cases r1.str; cases r2.int
      exact .inr (.inr ⟨_, _, c, rfl, rfl, by rw [szl]; exact hl, atD_eq _ _ e, fin_str s k q⟩)
    · exact q.elim
  · exact q.elim
theorem ce_add (ha : PE X a (yB X.kx B ma)) (hb : PE X b (yB X.kx B mb)) : PE X (.BinOp a .Add b pos) (yE X.kx B (mBin dAdd ma mb)) := ce_op op_addA opd_add ha hb
theorem ce_sub (ha : PE X a (yB X.kx B ma)) (hb : PE X b (yB X.kx B mb)) : PE X (.BinOp a .Sub b pos) (yE X.kx B (mBin dSub ma mb)) := ce_op op_sub opd_sub ha hb
theorem ce_mul (ha : PE X a (yB X.kx B ma)) (hb : PE X b (yB X.kx B mb)) : PE X (.BinOp a .Mult b pos) (yE X.kx B (mBin dMul ma mb)) := ce_op op_mulA opd_mul ha hb
theorem ce_div (ha : PE X a (yB X.kx B ma)) (hb : PE X b (yB X.kx B mb)) : PE X (.BinOp a .FloorDiv b pos) (yE X.kx B (mBin dDiv ma mb)) := ce_op op_fdivW opd_div ha hb
theorem ce_mod (ha : PE X a (yB X.kx B ma)) (hb : PE X b (yB X.kx B mb)) : PE X (.BinOp a .Mod b pos) (yE X.kx B (mBin dMod ma mb)) := ce_op op_mod opd_mod ha hb
theorem ce_pow (ha : PE X a (yB X.kx B ma)) (hb : PE X b (yB X.kx B mb)) : PE X (.BinOp a .Pow b pos) (yE X.kx B (mBin dPow ma mb)) := ce_op op_pow opd_pow ha hb
theorem ce_lt (ha : PE X a (yB X.kx B ma)) (hb : PE X b (yB X.kx B mb)) : PE X (.Compare a [.Lt] [b] pos) (yE X.kx B (mBin dLt ma mb)) := ce_cmp op_lt opd_lt ha hb (nomark _)
theorem ce_le (ha : PE X a (yB X.kx B ma)) (hb : PE X b (yB X.kx B mb)) : PE X (.Compare a [.LtE] [b] pos) (yE X.kx B (mBin dLe ma mb)) := ce_cmp op_le opd_le ha hb (nomark _)
theorem ce_gt (ha : PE X a (yB X.kx B ma)) (hb : PE X b (yB X.kx B mb)) : PE X (.Compare a [.Gt] [b] pos) (yE X.kx B (mBin dGt ma mb)) := ce_cmp op_gt opd_gt ha hb (nomark _)
theorem ce_ge (ha : PE X a (yB X.kx B ma)) (hb : PE X b (yB X.kx B mb)) : PE X (.Compare a [.GtE] [b] pos) (yE X.kx B (mBin dGe ma mb)) := ce_cmp op_ge opd_ge ha hb (nomark _)
theorem ce_ix (ha : PE X a (yB X.kx B ma)) (hb : PE X b (yB X.kx B mb)) (hs : PlainIx b := by exact fun _ _ => rfl) : PE X (.Subscript a b pos) (yE X.kx B (mBin dIx ma mb)) := ce_ixg ix_seq opd_ix ha hb hs
theorem ce_neg (ha : PE X a (yB X.kx B ma)) : PE X (.UnaryOp .USub a pos) (yE X.kx B (mUn dNeg ma)) := pe_imp (pe_un un_neg ha) fun σ H Q ⟨F, ρ, ok, q⟩ => seqB ok q fun d F' H' v e1 r q1 => by
  have k := ok.step e1
  unfold dNeg at q1
  split at q1
  · cases r.int
    exact ⟨_, rfl, fin_int k.fh k.dk (PE1.step q1 e1)⟩
  · exact q1.elim
end
end Y
/-! # Y8 -/
set_option Elab.async false
set_option linter.all false
set_option maxRecDepth 100000
set_option maxHeartbeats 4000000
namespace Y
open PySem PySem.Spec L2

/-! ### == of data -/
mutual
def D.plain : D → Bool
  | .obj _ _ _ => false
  | .deal => false
  | .tup ds => D.plainL ds
  | .lst ds => D.plainL ds
  | _ => true
def D.plainL : List D → Bool
  | [] => true
  | d :: ds => D.plain d && D.plainL ds
end
mutual
def D.py : D → PyData
  | .non => .none
  | .bl b => .bool b
  | .int i => .int i
  | .str s => .str s
  | .tup ds => .tuple (D.pyL ds)
  | .lst ds => .list (D.pyL ds)
  | .obj _ _ _ => .none
  | .deal => .none
def D.pyL : List D → List PyData
  | [] => []
  | d :: ds => D.py d :: D.pyL ds
end
section
variable {Z : Kx} {B : Bx} {F H : Hp}
mutual
theorem dp_of (s : Same F H) : ∀ (d : D) (v : V), d.plain = true → Rp Z.mg B.dl F d v → Dp Z.K H v d.py
  | .non, v, _, h => by unfold Rp at h; subst h; exact .non
  | .bl b, v, _, h => by unfold Rp at h; subst h; exact .bl b
  | .int i, v, _, h => by unfold Rp at h; subst h; exact .int i
  | .str x, v, _, h => by unfold Rp at h; subst h; exact .str x
  | .tup ds, v, p, h => by
    unfold Rp at h
    obtain ⟨a, vs, rfl, q, r⟩ := h
    unfold D.plain at p
    exact .tup (.inl (.inl (s _ _ q))) (dpL_of s ds vs p r)
  | .lst ds, v, p, h => by
    unfold Rp at h
    obtain ⟨a, vs, rfl, q, r⟩ := h
    unfold D.plain at p
    exact .lst (.inl (.inl (s _ _ q))) (dpL_of s ds vs p r)
  | .obj c ks ds, v, p, h => by unfold D.plain at p; cases p
  | .deal, v, p, h => by unfold D.plain at p; cases p
theorem dpL_of (s : Same F H) : ∀ (ds : List D) (vs : List V), D.plainL ds = true → RpL Z.mg B.dl F ds vs → DpAll Z.K H vs (D.pyL ds)
  | [], vs, _, h => by unfold RpL at h; subst h; exact .nil
  | d :: ds, vs, p, h => by
    unfold RpL at h
    obtain ⟨v, r, rfl, q, t⟩ := h
    unfold D.plainL at p
    rw [Bool.and_eq_true] at p
    exact .cons (dp_of s d v p.1 q) (dpL_of s ds r p.2 t)
end
theorem dpB {d : D} {v : V} (s : Same F H) (p : d.plain = true) (h : RpB Z B F H d v) : Dp Z.K H v d.py := by
  rcases h with h | ⟨ds, a, vs, rfl, rfl, n, q, r⟩
  · exact dp_of (B := B) s d v p h
  · unfold D.plain at p
    exact .lst (.inl (.inl q)) (dpL_of (B := B) s ds vs p r)
end
/-- == is asked of such data only -/
def cmpOk (x y : D) : Bool := x.plain && y.plain && SeqAt.shaped x.py && SeqAt.shaped y.py
def dEq (x y : D) : R D := R.grd (cmpOk x y = true) (.ok (.bl (PyData.eqv x.py y.py)))
def dNe (x y : D) : R D := R.grd (cmpOk x y = true) (.ok (.bl (!PyData.eqv x.py y.py)))
def D.flat : D → Bool
  | .non => true
  | .bl _ => true
  | .int _ => true
  | .str _ => true
  | _ => false
def D.v : D → V
  | .bl b => .bl b
  | .int i => .int i
  | .str s => .str s
  | _ => .non
def dInG (neg : Bool) : D → D → R D
  | x, .lst ds => R.grd ((x.flat && ds.all D.flat) = true) (.ok (.bl (if neg then !inV x.v (ds.map D.v) else inV x.v (ds.map D.v))))
  | x, .tup ds => R.grd ((x.flat && ds.all D.flat) = true) (.ok (.bl (if neg then !inV x.v (ds.map D.v) else inV x.v (ds.map D.v))))
  | _, _ => .stuck
def D.isNon : D → Bool
  | .non => true
  | _ => false
def dIs (x y : D) : R D := match y with
  | .non => .ok (.bl x.isNon)
  | _ => .stuck
def dIsNot (x y : D) : R D := match y with
  | .non => .ok (.bl (!x.isNon))
  | _ => .stuck
theorem flat_v {Z : Kx} {dl : DL} {F : Hp} {d : D} {v : V} (f : d.flat = true) (h : Rp Z.mg dl F d v) : v = d.v := by
  cases d with
  | non => unfold Rp at h; exact h
  | bl b => unfold Rp at h; exact h
  | int b => unfold Rp at h; exact h
  | str b => unfold Rp at h; exact h
  | tup b => cases f
  | lst b => cases f
  | obj c ks b => cases f
  | deal => cases f
theorem flat_flat {d : D} (f : d.flat = true) : flatV d.v = true := by
  cases d with
  | non => rfl
  | bl b => rfl
  | int b => rfl
  | str b => rfl
  | tup b => cases f
  | lst b => cases f
  | obj c ks b => cases f
  | deal => cases f
theorem flat_vL {Z : Kx} {dl : DL} {F : Hp} : ∀ {ds : List D} {vs : List V}, ds.all D.flat = true → RpL Z.mg dl F ds vs → vs = ds.map D.v
  | [], vs, _, h => by unfold RpL at h; exact h
  | d :: ds, vs, f, h => by
    unfold RpL at h
    obtain ⟨v, r, rfl, q, t⟩ := h
    rw [List.all_cons, Bool.and_eq_true] at f
    rw [List.map_cons, flat_v f.1 q, flat_vL f.2 t]
theorem flat_all : ∀ {ds : List D}, ds.all D.flat = true → (ds.map D.v).all flatV = true
  | [], _ => rfl
  | d :: ds, f => by
    rw [List.all_cons, Bool.and_eq_true] at f
    rw [List.map_cons, List.all_cons, flat_flat f.1, flat_all f.2]
    rfl
section
variable {X : Cx} {B : Bx} {e a b c : Expr} {pos : Pos} {m ma mb mc : Rho → R D}
theorem opd_eq : OpD X.kx B (rEqD X.K) dEq := fun x y v1 v2 F H Q E s k r1 r2 q => by
  obtain ⟨hc, q⟩ := R.all_grd.mp q
  unfold cmpOk at hc
  rw [Bool.and_eq_true, Bool.and_eq_true, Bool.and_eq_true] at hc
  obtain ⟨⟨⟨p1, p2⟩, s1⟩, s2⟩ := hc
  exact ⟨_, _, dpB s p1 r1, dpB s p2 r2, s1, s2, fin_bl s k q⟩
theorem opd_ne : OpD X.kx B (rNeD X.K) dNe := fun x y v1 v2 F H Q E s k r1 r2 q => by
  obtain ⟨hc, q⟩ := R.all_grd.mp q
  unfold cmpOk at hc
  rw [Bool.and_eq_true, Bool.and_eq_true, Bool.and_eq_true] at hc
  obtain ⟨⟨⟨p1, p2⟩, s1⟩, s2⟩ := hc
  exact ⟨_, _, dpB s p1 r1, dpB s p2 r2, s1, s2, fin_bl s k q⟩
theorem opd_in {neg : Bool} : OpD X.kx B (rIn X.K neg) (dInG neg) := fun x y v1 v2 F H Q E s k r1 r2 q => by
  unfold dInG at q
  split at q
  · obtain ⟨hc, q⟩ := R.all_grd.mp q
    rw [Bool.and_eq_true] at hc
    obtain ⟨p, vs, rfl, h1, l1⟩ := r2.lst s
    have e1 : v1 = x.v := by
      rcases r1 with r1 | ⟨_, _, _, rfl, _⟩
      · exact flat_v hc.1 r1
      · cases hc.1
    have e2 := flat_vL hc.2 l1
    subst e1 e2
    exact ⟨p, _, rfl, .inl (.inl (.inl h1)), flat_flat hc.1, flat_all hc.2, fin_bl s k q⟩
  · obtain ⟨hc, q⟩ := R.all_grd.mp q
    rw [Bool.and_eq_true] at hc
    obtain ⟨p, vs, rfl, h1, l1⟩ := r2.tup s
    have e1 : v1 = x.v := by
      rcases r1 with r1 | ⟨_, _, _, rfl, _⟩
      · exact flat_v hc.1 r1
      · cases hc.1
    have e2 := flat_vL hc.2 l1
    subst e1 e2
    exact ⟨p, _, rfl, .inr (.inl (.inl h1)), flat_flat hc.1, flat_all hc.2, fin_bl s k q⟩
  · exact q.elim
theorem non_iff {Z : Kx} {F H : Hp} {d : D} {v : V} (r : RpB Z B F H d v) : (decide (v = V.non)) = d.isNon := by
  cases d with
  | non => cases r.non; rfl
  | bl b => cases r.bl; rfl
  | int b => cases r.int; rfl
  | str b => cases r.str; rfl
  | tup ds =>
    rcases r with r | ⟨_, _, _, w, _⟩
    · unfold RpX Rp at r
      obtain ⟨a, vs, rfl, _⟩ := r
      rfl
    · cases w
  | lst ds =>
    rcases r with r | ⟨_, _, _, w, rfl, _⟩
    · unfold RpX Rp at r
      obtain ⟨a, vs, rfl, _⟩ := r
      rfl
    · rfl
  | obj c ks ds =>
    rcases r with r | ⟨_, _, _, w, _⟩
    · unfold RpX Rp at r
      obtain ⟨a, _, _, _, rfl, _⟩ := r
      rfl
    · cases w
  | deal =>
    rcases r with r | ⟨_, _, _, w, _⟩
    · unfold RpX Rp at r
      obtain ⟨a, _, _, rfl⟩ := r
      rfl
    · cases w
theorem opd_is : OpD X.kx B (fun x y H Q => y = .non ∧ Q (.bl (decide (x = .non))) H) dIs := fun x y v1 v2 F H Q E s k r1 r2 q => by
  unfold dIs at q
  split at q
  · exact ⟨r2.non, by rw [non_iff r1]; exact fin_bl s k q⟩
  · exact q.elim
theorem opd_isNot : OpD X.kx B (fun x y H Q => y = .non ∧ Q (.bl (!decide (x = .non))) H) dIsNot := fun x y v1 v2 F H Q E s k r1 r2 q => by
  unfold dIsNot at q
  split at q
  · refine ⟨r2.non, ?_⟩
    rw [non_iff r1]
    exact fin_bl s k q
  · exact q.elim
/-! ### tests -/
def dBool : D → R Bool
  | .bl b => .ok b
  | _ => .stuck
def dTruth : D → R Bool
  | .non => .ok false
  | .bl b => .ok b
  | .int i => .ok (i != 0)
  | .lst ds => .ok (!ds.isEmpty)
  | .tup ds => .ok (!ds.isEmpty)
  | .str s => R.grd (s.length ≤ 16777216) (.ok ((s.length : Int) != 0))
  | _ => .stuck
def mTb (m : Rho → R D) : Rho → R Bool := fun ρ => (m ρ).bind dBool
def mTt (m : Rho → R D) : Rho → R Bool := fun ρ => (m ρ).bind dTruth
def mAndT (a b : Rho → R Bool) : Rho → R Bool := fun ρ => (a ρ).bind fun c => if c = true then b ρ else .ok false
def mOrT (a b : Rho → R Bool) : Rho → R Bool := fun ρ => (a ρ).bind fun c => if c = true then .ok true else b ρ
def mNotT (a : Rho → R Bool) : Rho → R Bool := fun ρ => (a ρ).bind fun c => .ok (!c)
theorem fin_T {B : Bx} {F H : Hp} {Q : Bool → Hp → Prop} {c : Bool} (s : Same F H) (k : DealOk B.dl H) (q : PT1 B F H Q c) : Q c H := q F H (.refl s k)
theorem bool_read {te : TE} (ht : ∀ σ H Q, yE X.kx B m σ H Q → te σ H Q) : ∀ σ H Q, yT X.kx B (mTb m) σ H Q → tTest te σ H Q := fun σ H Q ⟨F, ρ, ok, q⟩ => ht σ H _ (seqE ok q fun d F' H' v e1 r q1 => by
  have k := ok.step e1
  cases d with
  | bl b => unfold RpX Rp at r; exact ⟨b, r, fin_T k.fh k.dk (PT1.step q1 e1)⟩
  | _ => exact q1.elim)
theorem ct_cmp {op : CmpOp} {r : R2} {f : D → D → R D} (ho : OpR X (compareOp op) r) (hf : OpD X.kx B r f) (ha : PE X a (yB X.kx B ma)) (hb : PE X b (yB X.kx B mb)) (hm : behindInMarks op b = false) : PT X (.Compare a [op] [b] pos) (yT X.kx B (mTb (mBin f ma mb))) :=
  pt_imp (pt_cmpR ho ha hb hm) (bool_read fun _ _ _ q => read2 hf q)
theorem ct_tru (h : PE X e (yB X.kx B m)) (he : ∀ whole, isTrue e X.env whole = (do let v ← whole; standAt e.pos; holding [v] (truthy v)) := by intro _; rfl) : PT X e (yT X.kx B (mTt m)) := pt_imp (pt_truth h he) fun σ H Q ⟨F, ρ, ok, q⟩ => seqB ok q fun d F' H' v e1 r q1 => by
  have k := ok.step e1
  unfold dTruth at q1
  split at q1
  · cases r.non; exact ⟨false, rfl, fin_T k.fh k.dk (PT1.step q1 e1)⟩
  · cases r.bl; exact ⟨_, rfl, fin_T k.fh k.dk (PT1.step q1 e1)⟩
  · cases r.int; exact ⟨_, rfl, fin_T k.fh k.dk (PT1.step q1 e1)⟩
  · rename_i ds
    obtain ⟨p, vs, rfl, h1, l1⟩ := r.lst k.fh
    refine ⟨!vs.isEmpty, .inl ⟨vs, .inl (.inl h1), rfl⟩, ?_⟩
    have ev : vs.isEmpty = ds.isEmpty := by
      have := RpL.length l1
      cases vs <;> cases ds <;> first | rfl | (simp at this)
    rw [ev]
    exact fin_T k.fh k.dk (PT1.step q1 e1)
  · rename_i ds
    obtain ⟨p, vs, rfl, h1, l1⟩ := r.tup k.fh
    refine ⟨!vs.isEmpty, .inr (.inl ⟨vs, .inl (.inl h1), rfl⟩), ?_⟩
    have ev : vs.isEmpty = ds.isEmpty := by
      have := RpL.length l1
      cases vs <;> cases ds <;> first | rfl | (simp at this)
    rw [ev]
    exact fin_T k.fh k.dk (PT1.step q1 e1)
  · obtain ⟨hl, q1⟩ := R.all_grd.mp q1
    cases r.str
    exact ⟨_, ⟨by rw [szl]; exact hl, rfl⟩, fin_T k.fh k.dk (PT1.step q1 e1)⟩
  · exact q1.elim
variable {ta tb : Rho → R Bool} {rest : List Expr}
theorem ct_not (h : PT X a (yT X.kx B ta)) : PT X (.UnaryOp .Not a pos) (yT X.kx B (mNotT ta)) := pt_imp (pt_not h) fun σ H Q ⟨F, ρ, ok, q⟩ => seqT ok q fun c F' H' e1 q1 => q1 F' H' |> fun z => by
  have k := ok.step e1
  exact q1 F' H' e1
theorem cw_and1 (h : PT X a (yT X.kx B ta)) : PW X (.BoolOp .And [a] pos) (yT X.kx B ta) := pw_and1 h
theorem cw_or1 (h : PT X a (yT X.kx B ta)) : PW X (.BoolOp .Or [a] pos) (yT X.kx B ta) := pw_or1 h
theorem cw_and (ha : PT X a (yT X.kx B ta)) (hb : PW X (.BoolOp .And (b :: rest) pos) (yT X.kx B tb)) : PW X (.BoolOp .And (a :: b :: rest) pos) (yT X.kx B (mAndT ta tb)) := pw_imp (pw_and ha hb) fun σ H Q ⟨F, ρ, ok, q⟩ => seqT ok q fun c F' H' e1 q1 => by
  have k := ok.step e1
  cases c with
  | true => rw [if_pos rfl] at q1 ⊢; exact ⟨F', ρ, k, R.all_imp (fun _ z => PT1.step z e1) (fun _ z => z) q1⟩
  | false => rw [if_neg Bool.false_ne_true] at q1 ⊢; exact q1 F' H' e1
theorem cw_or (ha : PT X a (yT X.kx B ta)) (hb : PW X (.BoolOp .Or (b :: rest) pos) (yT X.kx B tb)) : PW X (.BoolOp .Or (a :: b :: rest) pos) (yT X.kx B (mOrT ta tb)) := pw_imp (pw_or ha hb) fun σ H Q ⟨F, ρ, ok, q⟩ => seqT ok q fun c F' H' e1 q1 => by
  have k := ok.step e1
  cases c with
  | false => rw [if_neg Bool.false_ne_true] at q1 ⊢; exact ⟨F', ρ, k, R.all_imp (fun _ z => PT1.step z e1) (fun _ z => z) q1⟩
  | true => rw [if_pos rfl] at q1 ⊢; exact q1 F' H' e1
/-! bools as values -/
def mAndV (a b : Rho → R D) : Rho → R D := fun ρ => (a ρ).bind fun x => (dBool x).bind fun c => if c = true then b ρ else .ok (.bl false)
def mOrV (a b : Rho → R D) : Rho → R D := fun ρ => (a ρ).bind fun x => (dBool x).bind fun c => if c = true then .ok (.bl true) else b ρ
def mNotV (a : Rho → R D) : Rho → R D := fun ρ => (a ρ).bind fun x => (dBool x).bind fun c => .ok (.bl (!c))
def mIfE (t : Rho → R Bool) (a b : Rho → R D) : Rho → R D := fun ρ => (t ρ).bind fun c => if c = true then a ρ else b ρ
theorem ce_one {op} (h : PE X a (yE X.kx B ma)) : PE X (.BoolOp op [a] pos) (yE X.kx B ma) := pe_one h
theorem ce_and (ha : PE X a (yE X.kx B ma)) (hb : PE X (.BoolOp .And (b :: rest) pos) (yE X.kx B mb)) : PE X (.BoolOp .And (a :: b :: rest) pos) (yE X.kx B (mAndV ma mb)) := pe_imp (pe_and ha hb) fun σ H Q ⟨F, ρ, ok, q⟩ => seqE ok q fun d F' H' v e1 r q1 => by
  have k := ok.step e1
  cases d with
  | bl c =>
    unfold RpX Rp at r
    refine ⟨c, r, ?_⟩
    cases c with
    | true => rw [if_pos rfl]; exact ⟨F', ρ, k, R.all_imp (fun _ z => PE1.step z e1) (fun _ z => z) q1⟩
    | false => rw [if_neg Bool.false_ne_true]; exact fin_bl k.fh k.dk (PE1.step q1 e1)
  | _ => exact q1.elim
theorem ce_or (ha : PE X a (yE X.kx B ma)) (hb : PE X (.BoolOp .Or (b :: rest) pos) (yE X.kx B mb)) : PE X (.BoolOp .Or (a :: b :: rest) pos) (yE X.kx B (mOrV ma mb)) := pe_imp (pe_or ha hb) fun σ H Q ⟨F, ρ, ok, q⟩ => seqE ok q fun d F' H' v e1 r q1 => by
  have k := ok.step e1
  cases d with
  | bl c =>
    unfold RpX Rp at r
    refine ⟨c, r, ?_⟩
    cases c with
    | false => rw [if_neg Bool.false_ne_true]; exact ⟨F', ρ, k, R.all_imp (fun _ z => PE1.step z e1) (fun _ z => z) q1⟩
    | true => rw [if_pos rfl]; exact fin_bl k.fh k.dk (PE1.step q1 e1)
  | _ => exact q1.elim
theorem ce_not (ha : PE X a (yE X.kx B ma)) : PE X (.UnaryOp .Not a pos) (yE X.kx B (mNotV ma)) := pe_imp (pe_not ha) fun σ H Q ⟨F, ρ, ok, q⟩ => seqE ok q fun d F' H' v e1 r q1 => by
  have k := ok.step e1
  cases d with
  | bl c =>
    unfold RpX Rp at r
    exact ⟨c, r, fin_bl k.fh k.dk (PE1.step q1 e1)⟩
  | _ => exact q1.elim
theorem ce_if (hc : PT X c (yT X.kx B ta)) (ha : PE X a (yE X.kx B ma)) (hb : PE X b (yE X.kx B mb)) : PE X (.IfExp c a b pos) (yE X.kx B (mIfE ta ma mb)) := pe_imp (pe_ifExp hc ha hb) fun σ H Q ⟨F, ρ, ok, q⟩ => seqT ok q fun c F' H' e1 q1 => by
  have k := ok.step e1
  cases c with
  | true => rw [if_pos rfl] at q1 ⊢; exact ⟨F', ρ, k, R.all_imp (fun _ z => PE1.step z e1) (fun _ z => z) q1⟩
  | false => rw [if_neg Bool.false_ne_true] at q1 ⊢; exact ⟨F', ρ, k, R.all_imp (fun _ z => PE1.step z e1) (fun _ z => z) q1⟩
/-! comparisons by name -/
theorem ce_eq (hr : X.A.units + 64 < cLine) (ha : PE X a (yB X.kx B ma)) (hb : PE X b (yB X.kx B mb)) : PE X (.Compare a [.Eq] [b] pos) (yE X.kx B (mBin dEq ma mb)) := ce_cmp (op_eqD hr) opd_eq ha hb (nomark _)
theorem ce_ne (hr : X.A.units + 64 < cLine) (ha : PE X a (yB X.kx B ma)) (hb : PE X b (yB X.kx B mb)) : PE X (.Compare a [.NotEq] [b] pos) (yE X.kx B (mBin dNe ma mb)) := ce_cmp (op_neD hr) opd_ne ha hb (nomark _)
theorem ce_in (ha : PE X a (yB X.kx B ma)) (hb : PE X b (yB X.kx B mb)) (hm : behindInMarks .In b = false := by rfl) : PE X (.Compare a [.In] [b] pos) (yE X.kx B (mBin (dInG false) ma mb)) := ce_cmp op_in_seq opd_in ha hb hm
theorem ce_notin (ha : PE X a (yB X.kx B ma)) (hb : PE X b (yB X.kx B mb)) (hm : behindInMarks .NotIn b = false := by rfl) : PE X (.Compare a [.NotIn] [b] pos) (yE X.kx B (mBin (dInG true) ma mb)) := ce_cmp op_notIn_seq opd_in ha hb hm
theorem ce_is (ha : PE X a (yB X.kx B ma)) (hb : PE X b (yB X.kx B mb)) : PE X (.Compare a [.Is] [b] pos) (yE X.kx B (mBin dIs ma mb)) := ce_cmp op_isN opd_is ha hb (nomark _)
theorem ce_isnot (ha : PE X a (yB X.kx B ma)) (hb : PE X b (yB X.kx B mb)) : PE X (.Compare a [.IsNot] [b] pos) (yE X.kx B (mBin dIsNot ma mb)) := ce_cmp op_notN opd_isNot ha hb (nomark _)
theorem ct_eq (hr : X.A.units + 64 < cLine) (ha : PE X a (yB X.kx B ma)) (hb : PE X b (yB X.kx B mb)) : PT X (.Compare a [.Eq] [b] pos) (yT X.kx B (mTb (mBin dEq ma mb))) := ct_cmp (op_eqD hr) opd_eq ha hb (nomark _)
theorem ct_ne (hr : X.A.units + 64 < cLine) (ha : PE X a (yB X.kx B ma)) (hb : PE X b (yB X.kx B mb)) : PT X (.Compare a [.NotEq] [b] pos) (yT X.kx B (mTb (mBin dNe ma mb))) := ct_cmp (op_neD hr) opd_ne ha hb (nomark _)
theorem ct_lt (ha : PE X a (yB X.kx B ma)) (hb : PE X b (yB X.kx B mb)) : PT X (.Compare a [.Lt] [b] pos) (yT X.kx B (mTb (mBin dLt ma mb))) := ct_cmp op_lt opd_lt ha hb (nomark _)
theorem ct_le (ha : PE X a (yB X.kx B ma)) (hb : PE X b (yB X.kx B mb)) : PT X (.Compare a [.LtE] [b] pos) (yT X.kx B (mTb (mBin dLe ma mb))) := ct_cmp op_le opd_le ha hb (nomark _)
theorem ct_gt (ha : PE X a (yB X.kx B ma)) (hb : PE X b (yB X.kx B mb)) : PT X (.Compare a [.Gt] [b] pos) (yT X.kx B (mTb (mBin dGt ma mb))) := ct_cmp op_gt opd_gt ha hb (nomark _)
theorem ct_ge (ha : PE X a (yB X.kx B ma)) (hb : PE X b (yB X.kx B mb)) : PT X (.Compare a [.GtE] [b] pos) (yT X.kx B (mTb (mBin dGe ma mb))) := ct_cmp op_ge opd_ge ha hb (nomark _)
theorem ct_in (ha : PE X a (yB X.kx B ma)) (hb : PE X b (yB X.kx B mb)) (hm : behindInMarks .In b = false := by rfl) : PT X (.Compare a [.In] [b] pos) (yT X.kx B (mTb (mBin (dInG false) ma mb))) := ct_cmp op_in_seq opd_in ha hb hm
theorem ct_notin (ha : PE X a (yB X.kx B ma)) (hb : PE X b (yB X.kx B mb)) (hm : behindInMarks .NotIn b = false := by rfl) : PT X (.Compare a [.NotIn] [b] pos) (yT X.kx B (mTb (mBin (dInG true) ma mb))) := ct_cmp op_notIn_seq opd_in ha hb hm
theorem ct_is (ha : PE X a (yB X.kx B ma)) (hb : PE X b (yB X.kx B mb)) : PT X (.Compare a [.Is] [b] pos) (yT X.kx B (mTb (mBin dIs ma mb))) := ct_cmp op_isN opd_is ha hb (nomark _)
theorem ct_isnot (ha : PE X a (yB X.kx B ma)) (hb : PE X b (yB X.kx B mb)) : PT X (.Compare a [.IsNot] [b] pos) (yT X.kx B (mTb (mBin dIsNot ma mb))) := ct_cmp op_notN opd_isNot ha hb (nomark _)
end
end Y
/-! # Y9 -/
set_option Elab.async false
set_option linter.all false
set_option maxRecDepth 100000
set_option maxHeartbeats 4000000
namespace Y
open PySem PySem.Spec L2

/-! ### built-ins: their arguments are read -/
def RpBL (Z : Kx) (B : Bx) (F H : Hp) : List D → List V → Prop
  | [], vs => vs = []
  | d :: ds, vs => ∃ v r, vs = v :: r ∧ RpB Z B F H d v ∧ RpBL Z B F H ds r
theorem RpBL.step {Z : Kx} {B : Bx} {F H F' H' : Hp} (x : Ext B.dl F H F' H') : ∀ {ds : List D} {vs : List V}, RpBL Z B F H ds vs → RpBL Z B F' H' ds vs
  | [], _, h => h
  | _ :: _, _, ⟨v, r, e, q, t⟩ => ⟨v, r, e, q.step x, RpBL.step x t⟩
section
variable (Z : Kx) (B : Bx)
def PB2 (F H : Hp) (Q : List V → Hp → Prop) : List D → Prop := fun ds => ∀ F' H' vs, Ext B.dl F H F' H' → RpBL Z B F' H' ds vs → Q vs H'
def yAB (m : Rho → R (List D)) : TA := fun σ H Q => ∃ F ρ, Ok Z B F H σ ρ ∧ (m ρ).all (PB2 Z B F H Q) (XpE Z B F H σ)
end
theorem seqAB {Z : Kx} {B : Bx} {F H : Hp} {σ : L2.St} {Q : List V → Hp → Prop} {m : Rho → R (List D)} {ρ : Rho} {α : Type} {g : List D → R α} {P : α → Prop} (ok : Ok Z B F H σ ρ) (h : ((m ρ).bind g).all P (XpE Z B F H σ))
    (k : ∀ d F' H' v, Ext B.dl F H F' H' → RpBL Z B F' H' d v → (g d).all P (XpE Z B F' H' σ) → Q v H') : yAB Z B m σ H Q :=
  ⟨F, ρ, ok, R.all_imp (fun d q F' H' v e r => k d F' H' v e r (R.all_imp (fun _ z => z) (fun x z => z.step e) q)) (fun _ z => z) (R.all_bind.mp h)⟩
/-- what a built-in gives, by data -/
def CallD (Z : Kx) (B : Bx) (r : List V → Hp → VK → Prop) (f : List D → R D) : Prop := ∀ (ds : List D) (vs : List V) (F H : Hp) (Q : VK) (E : D → Prop), Same F H → DealOk B.dl H → RpBL Z B F H ds vs → (f ds).all (PE1 Z B F H Q) E → r vs H Q
def mBi (f : List D → R D) (ma : Rho → R (List D)) : Rho → R D := fun ρ => (ma ρ).bind f
def dLen : List D → R D
  | [.lst ds] => .ok (.int ds.length)
  | [.tup ds] => .ok (.int ds.length)
  | [.str s] => R.grd (s.length ≤ 16777216) (.ok (.int s.length))
  | _ => .stuck
def dAbs : List D → R D
  | [.int i] => .ok (.int (if i < 0 then -i else i))
  | _ => .stuck
def dMin2 : List D → R D
  | [.int i, .int j] => .ok (.int (if j < i then j else i))
  | _ => .stuck
def dMax2 : List D → R D
  | [.int i, .int j] => .ok (.int (if j > i then j else i))
  | _ => .stuck
def dInt : List D → R D
  | [.int i] => .ok (.int i)
  | [.bl k] => .ok (.int (if k then 1 else 0))
  | _ => .stuck
section
variable {Z : Kx} {B : Bx} {F H : Hp}
theorem one_arg {d : D} {vs : List V} (h : RpBL Z B F H [d] vs) : ∃ v, vs = [v] ∧ RpB Z B F H d v := by
  obtain ⟨v, r, rfl, q, rfl⟩ := h
  exact ⟨v, rfl, q⟩
theorem two_args {d e : D} {vs : List V} (h : RpBL Z B F H [d, e] vs) : ∃ v w, vs = [v, w] ∧ RpB Z B F H d v ∧ RpB Z B F H e w := by
  obtain ⟨v, r, rfl, q, w, r', rfl, q', rfl⟩ := h
  exact ⟨v, w, rfl, q, q'⟩
end
section
variable {X : Cx} {B : Bx} {e a b : Expr} {es : List Expr} {pos p : Pos} {m ma mb : Rho → R D} {mr : Rho → R (List D)}
theorem cab_nil : PA X [] (yAB X.kx B mNil) := pa_imp pa_nil fun σ H Q ⟨F, ρ, ok, q⟩ => q F H [] (.refl ok.fh ok.dk) rfl
theorem cab_cons (ha : PE X a (yB X.kx B ma)) (hr : PA X es (yAB X.kx B mr)) (hs : starEach (a :: es) X.env = (false, eval a X.env) :: starEach es X.env := by rfl) : PA X (a :: es) (yAB X.kx B (mCons ma mr)) :=
  pa_imp (pa_cons ha hr hs) fun σ H Q ⟨F, ρ, ok, q⟩ => by
    refine seqB ok q fun x F1 H1 v1 e1 r1 q1 => ?_
    refine seqAB (ok.step e1) q1 fun xs F2 H2 vs e2 r2 q2 => ?_
    exact q2 F2 H2 (v1 :: vs) (e1.trans e2) ⟨v1, vs, rfl, r1.step e2, r2⟩
theorem bi_read {r : List V → Hp → VK → Prop} {f : List D → R D} (hf : CallD X.kx B r f) {σ : L2.St} {H : Hp} {Q : VK} (h : yE X.kx B (mBi f mr) σ H Q) : tCB r (yAB X.kx B mr) σ H Q := by
  obtain ⟨F, ρ, ok, q⟩ := h
  refine seqAB ok q fun ds F' H' vs e1 r1 q1 => ?_
  have k := ok.step e1
  exact hf ds vs F' H' Q _ k.fh k.dk r1 (R.all_imp (fun _ z => PE1.step z e1) (fun _ z => z) q1)
theorem ce_bi {id : String} {x : Str} {r : List V → Hp → VK → Prop} {f : List D → R D} (hc : CallR X (.builtin id) r) (hf : CallD X.kx B r f) (hm : X.mg x = none) (hv : bootBuiltins x = some (.builtin id)) (ha : PA X (e :: es) (yAB X.kx B mr)) (hg : Gl X x) (hn : x ≠ "__name__") (hdb : (x == ("__debug__" : Str)) = false)
    (he : starEach (e :: es) X.env = (false, eval e X.env) :: starEach es X.env) (hpl : (backTo pos (starEach es X.env)).any (·.1) = false) : PE X (.Call (.Name x p) (e :: es) [] pos) (yE X.kx B (mBi f mr)) :=
  pe_imp (pe_callB hc hg hm hv ha hn hdb he hpl) fun _ _ _ q => bi_read hf q
theorem ce_ty {T : String} {x : Str} {r : List V → Hp → VK → Prop} {f : List D → R D} (hc : CallR X (.type T) r) (hf : CallD X.kx B r f) (hm : X.mg x = none) (hv : bootBuiltins x = some (.type T)) (ha : PA X (e :: es) (yAB X.kx B mr)) (hg : Gl X x) (hn : x ≠ "__name__") (hdb : (x == ("__debug__" : Str)) = false)
    (he : starEach (e :: es) X.env = (false, eval e X.env) :: starEach es X.env) (hpl : (backTo pos (starEach es X.env)).any (·.1) = false) : PE X (.Call (.Name x p) (e :: es) [] pos) (yE X.kx B (mBi f mr)) :=
  pe_imp (pe_callTy hc hg hm hv ha hn hdb he hpl) fun _ _ _ q => bi_read hf q
theorem cd_len : CallD X.kx B (fun xs H Q => ∃ x n, xs = [x] ∧ LenV X.K x H n ∧ Q (.int n) H) dLen := fun ds vs F H Q E s k r q => by
  unfold dLen at q
  split at q
  · obtain ⟨v, rfl, r1⟩ := one_arg r
    obtain ⟨p, ws, rfl, h1, l1⟩ := r1.lst s
    exact ⟨_, _, rfl, .inl ⟨ws, .inl (.inl h1), (RpL.length l1).symm⟩, fin_int s k q⟩
  · obtain ⟨v, rfl, r1⟩ := one_arg r
    obtain ⟨p, ws, rfl, h1, l1⟩ := r1.tup s
    exact ⟨_, _, rfl, .inr ⟨ws, .inl (.inl h1), (RpL.length l1).symm⟩, fin_int s k q⟩
  · obtain ⟨hl, q⟩ := R.all_grd.mp q
    obtain ⟨v, rfl, r1⟩ := one_arg r
    cases r1.str
    exact ⟨_, _, rfl, ⟨by rw [szl]; exact hl, rfl⟩, fin_int s k q⟩
  · exact q.elim
theorem cd_abs : CallD X.kx B (fun xs H Q => ∃ i, xs = [.int i] ∧ Q (.int (if i < 0 then -i else i)) H) dAbs := fun ds vs F H Q E s k r q => by
  unfold dAbs at q
  split at q
  · obtain ⟨v, rfl, r1⟩ := one_arg r
    cases r1.int
    exact ⟨_, rfl, fin_int s k q⟩
  · exact q.elim
theorem cd_min2 : CallD X.kx B (fun xs H Q => ∃ i j, xs = [.int i, .int j] ∧ Q (.int (if j < i then j else i)) H) dMin2 := fun ds vs F H Q E s k r q => by
  unfold dMin2 at q
  split at q
  · obtain ⟨v, w, rfl, r1, r2⟩ := two_args r
    cases r1.int; cases r2.int
    exact ⟨_, _, rfl, fin_int s k q⟩
  · exact q.elim
theorem cd_max2 : CallD X.kx B (fun xs H Q => ∃ i j, xs = [.int i, .int j] ∧ Q (.int (if j > i then j else i)) H) dMax2 := fun ds vs F H Q E s k r q => by
  unfold dMax2 at q
  split at q
  · obtain ⟨v, w, rfl, r1, r2⟩ := two_args r
    cases r1.int; cases r2.int
    exact ⟨_, _, rfl, fin_int s k q⟩
  · exact q.elim
theorem cd_int : CallD X.kx B (fun xs H Q => (∃ i, xs = [.int i] ∧ Q (.int i) H) ∨ ∃ k, xs = [.bl k] ∧ Q (.int (if k then 1 else 0)) H) dInt := fun ds vs F H Q E s k r q => by
  unfold dInt at q
  split at q
  · obtain ⟨v, rfl, r1⟩ := one_arg r
    cases r1.int
    exact .inl ⟨_, rfl, fin_int s k q⟩
  · obtain ⟨v, rfl, r1⟩ := one_arg r
    cases r1.bl
    exact .inr ⟨_, rfl, fin_int s k q⟩
  · exact q.elim
section
variable (ha : PA X (e :: es) (yAB X.kx B mr))
include ha
theorem ce_len (hm : X.mg "len" = none) (hg : Gl X "len" := by rfl) (he : starEach (e :: es) X.env = (false, eval e X.env) :: starEach es X.env := by rfl) (hpl : (backTo pos (starEach es X.env)).any (·.1) = false := by rfl) :
    PE X (.Call (.Name "len" p) (e :: es) [] pos) (yE X.kx B (mBi dLen mr)) := ce_bi call_len cd_len hm PySem.boot_len ha hg (by decide) (by decide) he hpl
theorem ce_abs (hm : X.mg "abs" = none) (hg : Gl X "abs" := by rfl) (he : starEach (e :: es) X.env = (false, eval e X.env) :: starEach es X.env := by rfl) (hpl : (backTo pos (starEach es X.env)).any (·.1) = false := by rfl) :
    PE X (.Call (.Name "abs" p) (e :: es) [] pos) (yE X.kx B (mBi dAbs mr)) := ce_bi call_abs cd_abs hm (by decide +kernel) ha hg (by decide) (by decide) he hpl
theorem ce_min2 (hc : X.calm = true) (hm : X.mg "min" = none) (hg : Gl X "min" := by rfl) (he : starEach (e :: es) X.env = (false, eval e X.env) :: starEach es X.env := by rfl) (hpl : (backTo pos (starEach es X.env)).any (·.1) = false := by rfl) :
    PE X (.Call (.Name "min" p) (e :: es) [] pos) (yE X.kx B (mBi dMin2 mr)) := ce_bi (call_min2 hc) cd_min2 hm (by decide +kernel) ha hg (by decide) (by decide) he hpl
theorem ce_max2 (hc : X.calm = true) (hm : X.mg "max" = none) (hg : Gl X "max" := by rfl) (he : starEach (e :: es) X.env = (false, eval e X.env) :: starEach es X.env := by rfl) (hpl : (backTo pos (starEach es X.env)).any (·.1) = false := by rfl) :
    PE X (.Call (.Name "max" p) (e :: es) [] pos) (yE X.kx B (mBi dMax2 mr)) := ce_bi (call_max2 hc) cd_max2 hm (by decide +kernel) ha hg (by decide) (by decide) he hpl
theorem ce_intc (hm : X.mg "int" = none) (hg : Gl X "int" := by rfl) (he : starEach (e :: es) X.env = (false, eval e X.env) :: starEach es X.env := by rfl) (hpl : (backTo pos (starEach es X.env)).any (·.1) = false := by rfl) :
    PE X (.Call (.Name "int" p) (e :: es) [] pos) (yE X.kx B (mBi dInt mr)) := ce_ty call_int1 cd_int hm (by decide +kernel) ha hg (by decide) (by decide) he hpl
end
/-! list(x), tuple(x) -/
def mSeqL (m : Rho → R (List D)) : Rho → R (List D) := fun ρ => (m ρ).bind fun ds => match ds with
  | [.lst xs] => .ok xs
  | [.tup xs] => .ok xs
  | _ => .stuck
theorem new_of {Z : Kx} {F H F' H' : Hp} {dl : DL} (e : Ext dl F H F' H') {p : Addr} (h : H' p = none) : H p = none := e.new_old h
theorem co_list {e : Expr} {mr : Rho → R (List D)} (ha : PA X [e] (yAB X.kx B mr)) (hm : X.mg "list" = none) (hg : Gl X "list" := by rfl) (he : starEach [e] X.env = (false, eval e X.env) :: starEach [] X.env := by rfl) (hpl : (backTo pos (starEach [] X.env)).any (·.1) = false := by rfl) :
    PE X (.Call (.Name "list" p) [e] [] pos) (yO X.kx B (mSeqL mr)) := pe_imp (pe_callTy call_list_of hg hm (by decide +kernel) ha (by decide) (by decide) he hpl) fun σ H Q ⟨F, ρ, ok, q⟩ => seqAB ok q fun ds F' H' vs e1 r q1 => by
  have k := ok.step e1
  split at q1
  · obtain ⟨v, rfl, r1⟩ := one_arg r
    obtain ⟨p, ws, rfl, h1, l1⟩ := r1.lst k.fh
    refine ⟨p, ws, rfl, .inl (.inl (.inl h1)), fun l hl => ?_⟩
    exact q1 _ _ l ws (e1.trans (.own k.fh k.dk hl _)) (same_none k.fh hl) (e1.new_old hl) upd_same l1
  · obtain ⟨v, rfl, r1⟩ := one_arg r
    obtain ⟨p, ws, rfl, h1, l1⟩ := r1.tup k.fh
    refine ⟨p, ws, rfl, .inr (.inl (.inl h1)), fun l hl => ?_⟩
    exact q1 _ _ l ws (e1.trans (.own k.fh k.dk hl _)) (same_none k.fh hl) (e1.new_old hl) upd_same l1
  · exact q1.elim
def mTupC (m : Rho → R D) : Rho → R D := fun ρ => (m ρ).bind fun d => match d with
  | .lst xs => .ok (.tup xs)
  | .tup xs => .ok (.tup xs)
  | _ => .stuck
theorem ce_tuple {e : Expr} {m : Rho → R D} (ha : PE X e (yB X.kx B m)) (hm : X.mg "tuple" = none) (hg : Gl X "tuple" := by rfl) (na : starEach [e] X.env = (false, eval e X.env) :: starEach [] X.env := by rfl) :
    PE X (.Call (.Name "tuple" p) [e] [] pos) (yE X.kx B (mTupC m)) := pe_imp (pe_tupleOf hg hm ha na) fun σ H Q ⟨F, ρ, ok, q⟩ => seqB ok q fun d F' H' v e1 r q1 => by
  have k := ok.step e1
  split at q1
  · obtain ⟨p, ws, rfl, h1, l1⟩ := r.lst k.fh
    refine .inl ⟨p, ws, rfl, .inl (.inl h1), fin_tup k.fh k.dk l1 (PE1.step q1 e1)⟩
  · have r0 := r
    obtain ⟨p, ws, rfl, h1, l1⟩ := r.tup k.fh
    refine .inr ⟨p, ws, rfl, .inl (.inl h1), ?_⟩
    rcases r0 with r0 | ⟨_, _, _, w, _⟩
    · exact q1 F' H' _ e1 r0
    · cases w
  · exact q1.elim
/-! slices -/
def cutD {α : Type} (xs : List α) (lo hi : Option Int) : List α := (xs.drop (HT.sIx xs.length 0 lo)).take (HT.sIx xs.length xs.length hi - HT.sIx xs.length 0 lo)
def mPart (m : Rho → R D) : Rho → R (Option Int) := fun ρ => (m ρ).bind fun d => match d with
  | .int i => .ok (some i)
  | _ => .stuck
def mNone : Rho → R (Option Int) := fun _ => .ok none
def yP (Z : Kx) (B : Bx) (m : Rho → R (Option Int)) : TO := fun σ H Q => ∃ F ρ, Ok Z B F H σ ρ ∧ (m ρ).all (fun o => ∀ F' H', Ext B.dl F H F' H' → Q o H') (XpE Z B F H σ)
theorem po_imp {e : Option Expr} {t t' : TO} (h : PO X e t) (i : ∀ σ H Q, t' σ H Q → t σ H Q) : PO X e t' := ⟨fun pins s σ H Q I q => h.run pins s σ H Q I (i σ H Q q)⟩
theorem cp_none : PO X none (yP X.kx B mNone) := po_imp po_none fun σ H Q ⟨F, ρ, ok, q⟩ => q F H (.refl ok.fh ok.dk)
theorem cp_some (h : PE X e (yB X.kx B m)) : PO X (some e) (yP X.kx B (mPart m)) := po_imp (po_some h) fun σ H Q ⟨F, ρ, ok, q⟩ => seqB ok q fun d F' H' v e1 r q1 => by
  have k := ok.step e1
  split at q1
  · cases r.int
    exact ⟨_, rfl, q1 F' H' e1⟩
  · exact q1.elim
theorem seqP {Z : Kx} {B : Bx} {F H : Hp} {σ : L2.St} {Q : Option Int → Hp → Prop} {m : Rho → R (Option Int)} {ρ : Rho} {α : Type} {g : Option Int → R α} {P : α → Prop} (ok : Ok Z B F H σ ρ) (h : ((m ρ).bind g).all P (XpE Z B F H σ))
    (k : ∀ d F' H', Ext B.dl F H F' H' → (g d).all P (XpE Z B F' H' σ) → Q d H') : yP Z B m σ H Q :=
  ⟨F, ρ, ok, R.all_imp (fun d q F' H' e => k d F' H' e (R.all_imp (fun _ z => z) (fun x z => z.step e) q)) (fun _ z => z) (R.all_bind.mp h)⟩
/-- a list's part, a new list of one's own -/
def mCutL (m : Rho → R D) (ml mh : Rho → R (Option Int)) : Rho → R (List D) := fun ρ => (m ρ).bind fun d => (ml ρ).bind fun lo => (mh ρ).bind fun hi => match d with
  | .lst xs => .ok (cutD xs lo hi)
  | _ => .stuck
theorem RpL.cut {mg : Str → Option Value} {dl : DL} {F : Hp} {ds : List D} {vs : List V} (r : RpL mg dl F ds vs) (lo hi : Option Int) : RpL mg dl F (cutD ds lo hi) (cutV vs lo hi) := by
  unfold cutD cutV
  rw [RpL.length r]
  exact RpL.take _ (RpL.drop _ r)
variable {lo hi : Option Expr} {ml mh : Rho → R (Option Int)} {p2 : Pos}
theorem co_cut (he : PE X e (yB X.kx B m)) (hl : PO X lo (yP X.kx B ml)) (hh : PO X hi (yP X.kx B mh)) : PE X (.Subscript e (.Slice lo hi none p2) pos) (yO X.kx B (mCutL m ml mh)) := pe_imp (pe_slice sl_list he hl hh) fun σ H Q ⟨F, ρ, ok, q⟩ => by
  refine seqB ok q fun d F1 H1 v e1 r q1 => ?_
  refine seqP (ok.step e1) q1 fun lo F2 H2 e2 q2 => ?_
  refine seqP ((ok.step e1).step e2) q2 fun hi F3 H3 e3 q3 => ?_
  have k := ((ok.step e1).step e2).step e3
  have e13 := (e1.trans e2).trans e3
  split at q3
  · obtain ⟨p, ws, rfl, h1, l1⟩ := ((r.step e2).step e3).lst k.fh
    refine ⟨p, ws, rfl, .inl (.inl h1), fun l hl => ?_⟩
    exact q3 _ _ l _ (e13.trans (.own k.fh k.dk hl _)) (same_none k.fh hl) (e13.new_old hl) upd_same (RpL.cut l1 lo hi)
  · exact q3.elim
/-- a tuple's or a text's part (a list's, too) -/
def mCut (m : Rho → R D) (ml mh : Rho → R (Option Int)) : Rho → R D := fun ρ => (m ρ).bind fun d => (ml ρ).bind fun lo => (mh ρ).bind fun hi => match d with
  | .lst xs => .ok (.lst (cutD xs lo hi))
  | .tup xs => .ok (.tup (cutD xs lo hi))
  | .str z => R.grd (z.length ≤ 16777216) (.ok (.str (cutS z lo hi)))
  | _ => .stuck
theorem cut_whole {α : Type} {xs : List α} {lo hi : Option Int} (h : HT.sIx xs.length 0 lo = 0 ∧ HT.sIx xs.length xs.length hi = xs.length) : cutD xs lo hi = xs := by
  unfold cutD
  rw [h.1, h.2]
  simp
theorem ce_cut (he : PE X e (yB X.kx B m)) (hl : PO X lo (yP X.kx B ml)) (hh : PO X hi (yP X.kx B mh)) : PE X (.Subscript e (.Slice lo hi none p2) pos) (yE X.kx B (mCut m ml mh)) := pe_imp (pe_slice (SlR.or sl_list (SlR.or sl_tupA sl_str)) he hl hh) fun σ H Q ⟨F, ρ, ok, q⟩ => by
  refine seqB ok q fun d F1 H1 v e1 r q1 => ?_
  refine seqP (ok.step e1) q1 fun lo F2 H2 e2 q2 => ?_
  refine seqP ((ok.step e1).step e2) q2 fun hi F3 H3 e3 q3 => ?_
  have k := ((ok.step e1).step e2).step e3
  have e13 := (e1.trans e2).trans e3
  have r3 := (r.step e2).step e3
  split at q3
  · obtain ⟨p, ws, rfl, h1, l1⟩ := r3.lst k.fh
    exact .inl ⟨p, ws, rfl, .inl (.inl h1), fin_lst k.fh k.dk (RpL.cut l1 lo hi) (PE1.step q3 e13)⟩
  · have r0 := r3
    obtain ⟨p, ws, rfl, h1, l1⟩ := r3.tup k.fh
    refine .inr (.inl ⟨p, ws, rfl, .inl (.inl h1), fun w => ?_, fun w => fin_tup k.fh k.dk (RpL.cut l1 lo hi) (PE1.step q3 e13)⟩)
    rw [RpL.length l1] at w
    rw [cut_whole w] at q3
    rcases r0 with r0 | ⟨_, _, _, w, _⟩
    · exact q3 F3 H3 _ e13 r0
    · cases w
  · obtain ⟨hl, q3⟩ := R.all_grd.mp q3
    cases r3.str
    exact .inr (.inr ⟨_, rfl, by rw [szl]; exact hl, fin_str k.fh k.dk (PE1.step q3 e13)⟩)
  · exact q3.elim
end
end Y
/-! # Y10 -/
set_option Elab.async false
set_option linter.all false
set_option maxRecDepth 100000
set_option maxHeartbeats 4000000
namespace Y
open PySem PySem.Spec L2

/-! ### lists of one's own, changed -/
def withOw (i : Nat) (f : List D → Rho → R Out) : Rho → R Out := fun ρ => match ρ[i]? with
  | some (.ow ds) => f ds ρ
  | _ => .stuck
def withSh (i : Nat) (f : D → Rho → R Out) : Rho → R Out := fun ρ => match ρ[i]? with
  | some (.sh d) => f d ρ
  | _ => .stuck
def mApp (i : Nat) (m : Rho → R D) : Rho → R Out := withOw i fun ds ρ => lift ρ (m ρ) fun d => R.grd (ds.length < 16777216) (.ok (.next (ρ.set i (.ow (ds ++ [d])))))
def mExt (i : Nat) (m : Rho → R D) : Rho → R Out := withOw i fun ds ρ => lift ρ (m ρ) fun d => match d with
  | .lst es => R.grd (ds.length + es.length ≤ 16777216) (.ok (.next (ρ.set i (.ow (ds ++ es)))))
  | _ => .stuck
def mPopS (i : Nat) : Rho → R Out := withOw i fun ds ρ => match ds[ds.length - 1]? with
  | some _ => .ok (.next (ρ.set i (.ow ds.dropLast)))
  | none => .stuck
/-- y = x.pop() -/
def mPopV (i j : Nat) : Rho → R Out := withOw i fun ds ρ => match ds[ds.length - 1]? with
  | some d => .ok (.next ((ρ.set i (.ow ds.dropLast)).set j (.sh d)))
  | none => .stuck
def mStore (i : Nat) (mv mi : Rho → R D) : Rho → R Out := withOw i fun ds ρ => lift ρ (mv ρ) fun v => lift ρ (mi ρ) fun k => match k with
  | .int j => match ixN ds.length j with
    | some n => .ok (.next (ρ.set i (.ow (ds.set n v))))
    | none => .stuck
  | _ => .stuck
def mAug (i : Nat) (f : D → D → R D) (m : Rho → R D) : Rho → R Out := withSh i fun d ρ => lift ρ (m ρ) fun y => lift ρ (f d y) fun z => .ok (.next (ρ.set i (.sh z)))
theorem RpL.dropLast {mg : Str → Option Value} {dl : DL} {F : Hp} {ds : List D} {vs : List V} (r : RpL mg dl F ds vs) : RpL mg dl F ds.dropLast vs.dropLast := by
  rw [List.dropLast_eq_take, List.dropLast_eq_take, RpL.length r]
  exact RpL.take _ r
theorem slot_ow {Z : Kx} {B : Bx} {F H : Hp} {σ : L2.St} {ρ : Rho} {i : Nat} {ds : List D} (ok : Ok Z B F H σ ρ) (e : ρ[i]? = some (.ow ds)) : ∃ a vs, σ[i]? = some (some (.ref a)) ∧ H a = some (.lst vs) ∧ RpLX Z B F ds vs := by
  obtain ⟨a, vs, ea, _, h, r⟩ := ok.sl i _ e
  exact ⟨a, vs, ea, h, r⟩
theorem ow_all {Z : Kx} {B : Bx} {F : Hp} {N : Ends} {i : Nat} {f : List D → Rho → R Out} {ρ : Rho} (h : (withOw i f ρ).all (OutOk Z B F N) (fun _ => False)) : ∃ ds, ρ[i]? = some (.ow ds) ∧ (f ds ρ).all (OutOk Z B F N) (fun _ => False) := by
  unfold withOw at h
  split at h
  · exact ⟨_, by assumption, h⟩
  · exact h.elim
theorem sh_all {Z : Kx} {B : Bx} {F : Hp} {N : Ends} {i : Nat} {f : D → Rho → R Out} {ρ : Rho} (h : (withSh i f ρ).all (OutOk Z B F N) (fun _ => False)) : ∃ d, ρ[i]? = some (.sh d) ∧ (f d ρ).all (OutOk Z B F N) (fun _ => False) := by
  unfold withSh at h
  split at h
  · exact ⟨_, by assumption, h⟩
  · exact h.elim
section
variable {X : Cx} {B : Bx} {e call : Expr} {pos : Pos} {m mv mi : Rho → R D} {te : TE}
theorem cs_app (i : Nat) (h : PE X call (tBM X.K "list" rAppend (tVar i) (tCons (yE X.kx B m) tNil))) (hs : swapsWith call none pos.line X.env = pure false := by rfl) : PS X (.Expr call pos) (yS X.kx B (mApp i m)) := ps_imp (ps_expr h hs) fun N σ H ⟨F, ρ, ok, q⟩ => by
  obtain ⟨ds, e0, q⟩ := ow_all q
  obtain ⟨a, vs, ea, h1, r1⟩ := slot_ow ok e0
  refine ⟨.ref a, ea, .inl ⟨rfl, vs, .inl (.inl h1)⟩, ?_⟩
  refine sE ok q fun d F1 H1 v e1 r q1 => ?_
  obtain ⟨hl, q1⟩ := R.all_grd.mp q1
  have k := ok.step e1
  obtain ⟨a', vs', ea', h1', r1'⟩ := slot_ow k e0
  rw [ea] at ea'
  cases ea'
  refine ⟨a, vs', v, rfl, rfl, h1', by rw [szl, RpL.length r1']; exact hl, q1 F1 _ σ (Same.refl F1) ?_⟩
  exact k.mut e0 ea (RpL.append r1' (RpL.cons r RpL.nil))
theorem cs_ext (i : Nat) (h : PE X call (tBM X.K "list" rExtend (tVar i) (tCons (yB X.kx B m) tNil))) (hs : swapsWith call none pos.line X.env = pure false := by rfl) : PS X (.Expr call pos) (yS X.kx B (mExt i m)) := ps_imp (ps_expr h hs) fun N σ H ⟨F, ρ, ok, q⟩ => by
  obtain ⟨ds, e0, q⟩ := ow_all q
  obtain ⟨a, vs, ea, h1, r1⟩ := slot_ow ok e0
  refine ⟨.ref a, ea, .inl ⟨rfl, vs, .inl (.inl h1)⟩, ?_⟩
  refine sB ok q fun d F1 H1 v e1 r q1 => ?_
  have k := ok.step e1
  split at q1
  · rename_i es
    obtain ⟨hl, q1⟩ := R.all_grd.mp q1
    obtain ⟨a', vs', ea', h1', r1'⟩ := slot_ow k e0
    rw [ea] at ea'
    cases ea'
    obtain ⟨p, ws, rfl, h2, r2⟩ := r.lst k.fh
    refine ⟨a, p, vs', ws, rfl, rfl, h1', h2, by rw [szl, RpL.length r1', RpL.length r2]; exact hl, q1 F1 _ σ (Same.refl F1) ?_⟩
    exact k.mut e0 ea (RpL.append r1' r2)
  · exact q1.elim
theorem cs_popS (i : Nat) (h : PE X call (tBM0 X.K "list" rPop (tVar i))) (hs : swapsWith call none pos.line X.env = pure false := by rfl) : PS X (.Expr call pos) (yS X.kx B (mPopS i)) := ps_imp (ps_expr h hs) fun N σ H ⟨F, ρ, ok, q⟩ => by
  obtain ⟨ds, e0, q⟩ := ow_all q
  obtain ⟨a, vs, ea, h1, r1⟩ := slot_ow ok e0
  refine ⟨.ref a, ea, .inl ⟨rfl, vs, .inl (.inl h1)⟩, ?_⟩
  split at q
  · rename_i d ed
    obtain ⟨v, ev, rv⟩ := RpL.get r1 ed
    refine ⟨a, vs, v, rfl, rfl, h1, by rw [RpL.length r1]; exact ev, q F _ σ (Same.refl F) ?_⟩
    exact ok.mut e0 ea (RpL.dropLast r1)
  · exact q.elim
theorem cs_popV (i j : Nat) {x : Str} {p' : Pos} (hN : X.N.Nodup) (h : PE X call (tBM0 X.K "list" rPop (tVar i))) (hi : X.N[j]? = some x := by rfl) (hx : Loc X.env.scope x := by first | exact Or.inl rfl | exact Or.inr rfl)
    (hs : swapsWith call (some (.Name x p')) pos.line X.env = pure false := by rfl) (hf : X.fn x = true ∨ X.env.scope.names.lookup x = some .local := by first | exact .inl rfl | exact .inr rfl) : PS X (.Assign [.Name x p'] call pos) (yS X.kx B (mPopV i j)) := ps_imp (ps_set hN hi hx h hs hf) fun N σ H ⟨F, ρ, ok, q⟩ => by
  obtain ⟨ds, e0, q⟩ := ow_all q
  obtain ⟨a, vs, ea, h1, r1⟩ := slot_ow ok e0
  refine ⟨.ref a, ea, .inl ⟨rfl, vs, .inl (.inl h1)⟩, ?_⟩
  split at q
  · rename_i d ed
    obtain ⟨v, ev, rv⟩ := RpL.get r1 ed
    refine ⟨a, vs, v, rfl, rfl, h1, by rw [RpL.length r1]; exact ev, q F _ _ (Same.refl F) ?_⟩
    exact (ok.mut e0 ea (RpL.dropLast r1)).sh rv j
  · exact q.elim
theorem cs_store (i : Nat) {o ix : Expr} {ps : Pos} (he : PE X e (yE X.kx B mv)) (ho : PE X o (tVar i)) (hi : PE X ix (yB X.kx B mi))
    (ha : ∀ v, assign (.Subscript o ix ps) X.env v = (do
      let ov ← holding [v] (eval o X.env)
      let iv ← holding [v, ov] (eval ix X.env)
      standAt ps
      holding [v, ov, iv] (setItem ov iv v)
      release [v, ov, iv] []) := by intro _; rfl)
    (hs : swapsWithSole [.Subscript o ix ps] e pos.line X.env = pure false := by rfl) (hw : swappedStores [.Subscript o ix ps] e X.env = pure none := by rfl)
    (h1 : (assignEach [.Subscript o ix ps] X.env).map (·.2) = [assign (.Subscript o ix ps) X.env] := by rfl) : PS X (.Assign [.Subscript o ix ps] e pos) (yS X.kx B (mStore i mv mi)) := ps_imp (ps_asg he (pg_sub ho hi set_list ha) hs hw h1) fun N σ H ⟨F, ρ, ok, q⟩ => by
  obtain ⟨ds, e0, q⟩ := ow_all q
  refine sE ok q fun d F1 H1 v e1 r q1 => ?_
  have k := ok.step e1
  obtain ⟨a, vs, ea, h1, r1⟩ := slot_ow k e0
  refine ⟨.ref a, ea, ?_⟩
  refine sB k q1 fun w F2 H2 v2 e2 r2 q2 => ?_
  have k2 := k.step e2
  split at q2
  · rename_i j
    split at q2
    · rename_i n en
      cases r2.int
      obtain ⟨a', vs', ea', h1', r1'⟩ := slot_ow k2 e0
      rw [ea] at ea'
      cases ea'
      refine ⟨a, vs', j, n, rfl, rfl, h1', by rw [RpL.length r1']; exact en, q2 F2 _ σ (Same.refl F2) ?_⟩
      exact k2.mut e0 ea (RpL.set (Rp.mono e2.ff _ _ r) n r1')
    · exact q2.elim
  · exact q2.elim
def dIAdd : D → D → R D
  | .int i, .int j => .ok (.int (i + j))
  | _, _ => .stuck
def dIMul : D → D → R D
  | .int i, .int j => R.grd (small64 i ∨ small64 j) (.ok (.int (i * j)))
  | _, _ => .stuck
def dIDiv : D → D → R D
  | .int i, .int j => R.grd (0 < j ∧ j < 1073741824) (.ok (.int (i / j)))
  | _, _ => .stuck
theorem opd_iadd : OpD X.kx B (rI0 fun i j => .int (i + j)) dIAdd := fun x y v1 v2 F H Q E s k r1 r2 q => by
  unfold dIAdd at q
  split at q
  · cases r1.int; cases r2.int
    exact ⟨_, _, rfl, rfl, fin_int s k q⟩
  · exact q.elim
theorem opd_imul : OpD X.kx B (rI CMul fun i j => .int (i * j)) dIMul := fun x y v1 v2 F H Q E s k r1 r2 q => by
  unfold dIMul at q
  split at q
  · obtain ⟨hl, q⟩ := R.all_grd.mp q
    cases r1.int; cases r2.int
    exact ⟨_, _, rfl, rfl, hl, fin_int s k q⟩
  · exact q.elim
theorem opd_idiv : OpD X.kx B (rI CDiv fun i j => .int (i / j)) dIDiv := fun x y v1 v2 F H Q E s k r1 r2 q => by
  unfold dIDiv at q
  split at q
  · obtain ⟨hl, q⟩ := R.all_grd.mp q
    cases r1.int; cases r2.int
    exact ⟨_, _, rfl, rfl, hl, fin_int s k q⟩
  · exact q.elim
/-- what an operator in place gives, by data -/
theorem cs_aug (i : Nat) {x : Str} {p' : Pos} {op : Operator} {r : R2} {f : D → D → R D} (hN : X.N.Nodup) (ho : OpR X (inplaceOp op) r) (hf : OpD X.kx B r f) (he : PE X e (yB X.kx B m)) (hi : X.N[i]? = some x := by rfl) (hx : Loc X.env.scope x := by first | exact Or.inl rfl | exact Or.inr rfl)
    (hfn : X.fn x = true ∨ X.env.scope.names.lookup x = some .local := by first | exact .inl rfl | exact .inr rfl) : PS X (.AugAssign (.Name x p') op e pos) (yS X.kx B (mAug i f m)) := ps_imp (ps_aug hN hi hx he ho hfn) fun N σ H ⟨F, ρ, ok, q⟩ => by
  obtain ⟨d, e0, q⟩ := sh_all q
  obtain ⟨v, ev, rv⟩ := ok.sl i _ e0
  refine ⟨v, ev, ?_⟩
  refine sB ok q fun y F1 H1 w e1 r1 q1 => ?_
  have k := ok.step e1
  refine hf d y v w F1 H1 _ _ k.fh k.dk (.inl (Rp.mono e1.ff _ _ rv)) r1 (R.all_imp (fun z hz => ?_) (fun _ z => z) (R.all_bx.mp q1))
  intro F2 H2 u e2 r2
  exact hz F2 H2 _ e2.ff ((k.step e2).sh r2 i)
theorem cs_iadd (i : Nat) {x : Str} {p' : Pos} (hN : X.N.Nodup) (he : PE X e (yB X.kx B m)) (hi : X.N[i]? = some x := by rfl) (hx : Loc X.env.scope x := by first | exact Or.inl rfl | exact Or.inr rfl) (hfn : X.fn x = true ∨ X.env.scope.names.lookup x = some .local := by first | exact .inl rfl | exact .inr rfl) :
    PS X (.AugAssign (.Name x p') .Add e pos) (yS X.kx B (mAug i dIAdd m)) := cs_aug i hN iop_add opd_iadd he hi hx hfn
theorem cs_isub (i : Nat) {x : Str} {p' : Pos} (hN : X.N.Nodup) (he : PE X e (yB X.kx B m)) (hi : X.N[i]? = some x := by rfl) (hx : Loc X.env.scope x := by first | exact Or.inl rfl | exact Or.inr rfl) (hfn : X.fn x = true ∨ X.env.scope.names.lookup x = some .local := by first | exact .inl rfl | exact .inr rfl) :
    PS X (.AugAssign (.Name x p') .Sub e pos) (yS X.kx B (mAug i dSub m)) := cs_aug i hN iop_sub opd_sub he hi hx hfn
theorem cs_imul (i : Nat) {x : Str} {p' : Pos} (hN : X.N.Nodup) (he : PE X e (yB X.kx B m)) (hi : X.N[i]? = some x := by rfl) (hx : Loc X.env.scope x := by first | exact Or.inl rfl | exact Or.inr rfl) (hfn : X.fn x = true ∨ X.env.scope.names.lookup x = some .local := by first | exact .inl rfl | exact .inr rfl) :
    PS X (.AugAssign (.Name x p') .Mult e pos) (yS X.kx B (mAug i dIMul m)) := cs_aug i hN iop_mul opd_imul he hi hx hfn
theorem cs_idiv (i : Nat) {x : Str} {p' : Pos} (hN : X.N.Nodup) (he : PE X e (yB X.kx B m)) (hi : X.N[i]? = some x := by rfl) (hx : Loc X.env.scope x := by first | exact Or.inl rfl | exact Or.inr rfl) (hfn : X.fn x = true ∨ X.env.scope.names.lookup x = some .local := by first | exact .inl rfl | exact .inr rfl) :
    PS X (.AugAssign (.Name x p') .FloorDiv e pos) (yS X.kx B (mAug i dIDiv m)) := cs_aug i hN iop_fdiv opd_idiv he hi hx hfn
theorem cs_imod (i : Nat) {x : Str} {p' : Pos} (hN : X.N.Nodup) (he : PE X e (yB X.kx B m)) (hi : X.N[i]? = some x := by rfl) (hx : Loc X.env.scope x := by first | exact Or.inl rfl | exact Or.inr rfl) (hfn : X.fn x = true ∨ X.env.scope.names.lookup x = some .local := by first | exact .inl rfl | exact .inr rfl) :
    PS X (.AugAssign (.Name x p') .Mod e pos) (yS X.kx B (mAug i dMod m)) := cs_aug i hN iop_mod opd_mod he hi hx hfn
/-- a, b = e: the target is stored by its parts -/
def mAsg (b : Bnd) (m : Rho → R D) : Rho → R Out := fun ρ => lift ρ (m ρ) fun d => match b d ρ with
  | some ρ' => .ok (.next ρ')
  | none => .stuck
theorem cs_asg {tg : Expr} {b : Bnd} {ws : List Nat} (he : PE X e (yE X.kx B m)) (hg : PG X tg (yG X.kx B ws b)) (hs : swapsWithSole [tg] e pos.line X.env = pure false := by rfl) (hw : swappedStores [tg] e X.env = pure none := by rfl)
    (h1 : (assignEach [tg] X.env).map (·.2) = [assign tg X.env] := by rfl) : PS X (.Assign [tg] e pos) (yS X.kx B (mAsg b m)) := ps_imp (ps_asg he hg hs hw h1) fun N σ H ⟨F, ρ, ok, q⟩ => sE ok q fun d F1 H1 v e1 r q1 => by
  have k := ok.step e1
  split at q1
  · rename_i ρ' eb
    exact ⟨F1, ρ, d, ρ', k, r, eb, fun σ' k' _ => q1 F1 H1 σ' (Same.refl F1) k'⟩
  · exact q1.elim
end
end Y
/-! # Y11 -/
set_option Elab.async false
set_option linter.all false
set_option maxRecDepth 100000
set_option maxHeartbeats 4000000
namespace Y
open PySem PySem.Spec L2

/-! ### enumerate of a tuple -/
set_option maxHeartbeats 1000000 in
theorem meets_enum1 {v : Value} {o : Obj} {W : Heap → Prop} (G : Begins v o W) :
    Meets (Builtin.«enumerate.__new__» ⟨[.type "enumerate", v], []⟩) (fun _ T s => W s.heap ∧
      T (.ok (.ret (.ref (s.heap.push o).objs.size))) { s with heap := (s.heap.push o).push { cls := .type "enumerate", data := .fields #[.none, .bool false, .ref s.heap.objs.size, rawInt 0, .none, .none] } }) :=
  .of_wp fun prog w A T s h => by
    obtain ⟨hp, g, d, tk, os⟩ := s
    obtain ⟨hw, h⟩ := h
    have es := sub_enumerate
    have st : ∀ {A1 : Around} {E1 : Value → Shared → Prop} {Q1 : Value → Shared → Prop}, Q1 (.ref hp.objs.size) ⟨hp.push o, g, d, tk, os⟩ → wpAny (model prog w) A1 (pyIter v) Q1 E1 ⟨hp, g, d, tk, os⟩ :=
      fun z => G.iter prog w _ _ ⟨hp, g, d, tk, os⟩ _ hw z
    wp_walk using st
    refine wpAny_stack_any fun z => wpAny_pure ?_
    split
    · rename_i cc _ _ _ _ _
      cases (cc == Value.type "enumerate") <;> (wp_walk using st; exact ⟨_, rfl, h⟩)
    · wp_walk using st
      exact ⟨_, rfl, h⟩
section
variable {prog : Program} {w : World} {A : Around} {E : Value → Shared → Prop} {s : Shared}
/-- enumerate(v): its two new cells -/
theorem enum_begins1 {v : Value} {o : Obj} {W : Heap → Prop} {Q : Value → Shared → Prop} (G : Begins v o W) (hw : W s.heap)
    (h : ∀ h', IsEnum h' (s.heap.objs.size + 1) s.heap.objs.size 0 .none → h'.get? s.heap.objs.size = some o → (∀ b o, s.heap.get? b = some o → h'.get? b = some o) → Q (.ref (s.heap.objs.size + 1)) { s with heap := h' }) :
    wpAny (model prog w) A (call (.type "enumerate") [v]) Q E s := by
  refine callType_new F.called_enumerate (by decide) (F.typeCall_enumerate_1 _) (F.newCall_enumerate_1 _) (fun obj => F.args_object_init_2 obj _) F.entry_enumerate_new (meets_enum1 G) ⟨hw, ?_⟩
  have ez : (s.heap.push o).objs.size = s.heap.objs.size + 1 := Heap.size_push ..
  show _ ∧ _
  rw [ez]
  have ie : IsEnum ((s.heap.push o).push { cls := .type "enumerate", data := .fields #[.none, .bool false, .ref s.heap.objs.size, rawInt 0, .none, .none] }) (s.heap.objs.size + 1) s.heap.objs.size 0 .none := by
    have q := Heap.get?_push_size (s.heap.push o) (o := { cls := .type "enumerate", data := .fields #[.none, .bool false, .ref s.heap.objs.size, rawInt 0, .none, .none] }) rfl
    rw [ez] at q
    exact q
  exact ⟨⟨_, ie, rfl⟩, h _ ie (Heap.get?_push_of_some _ (Heap.get?_push_size _ G.free)) fun b o x => Heap.get?_push_of_some _ (Heap.get?_push_of_some _ x)⟩
end
/-- the tuple at a, each item in a new pair with its number -/
def IteT (a : Addr) : It :=
  ⟨fun i H => ∃ (xs : List V) (x : V), H a = some (.tup xs) ∧ xs[i]? = some x, fun i H v H' => ∃ T x, v = .ref T ∧ H T = none ∧ H' = upd H T (.tup [.int (i : Nat), x]) ∧ ∀ xs, H a = some (.tup xs) → xs[i]? = some x, fun i H => ∃ xs : List V, H a = some (.tup xs) ∧ xs.length = i⟩
theorem turn_enumT {P : Program} {w : World} {K : PySem.W.Frag} {elts : List Expr} {kk : Nat} {tpos : Pos} (a e it : Addr) :
    Turn P w K (.Tuple elts kk tpos) (IteT a) [e, it] e (fun i h => (∃ old, IsEnum h e it ((i : Nat) : Int) old) ∧ h.IsTupleIter it a i ∧ e ≠ it) where
  mem := List.mem_cons_self ..
  obj := fun i h st b hb => by
    obtain ⟨⟨old, he⟩, ⟨o, ho, hc, hd⟩, _⟩ := st
    rcases List.mem_cons.mp hb with z | z
    · rw [z]; exact ⟨_, he, fun v q => nomatch q⟩
    · rw [List.mem_singleton.mp z]; exact ⟨o, ho, fun v q => by rw [hd] at q; cases q⟩
  keep := fun i h h' st k => by
    obtain ⟨⟨old, he⟩, hi, ne⟩ := st
    exact ⟨⟨old, k e (List.mem_cons_self ..) _ he⟩, hi.at fun o q => k it (by simp) o q, ne⟩
  item := by
    intro X hP hw hK hc i pins s σ H E I hf st hg
    subst hP hw hK
    obtain ⟨⟨old, he⟩, hit, ne⟩ := st
    obtain ⟨xs, x, hq, hx⟩ := hg
    obtain ⟨its, rv, p, hz⟩ := I.tuple (.inl (.inl hq))
    obtain ⟨u, hu, ru⟩ := rv.get hx
    have hlt : i < its.length := by
      obtain ⟨z, _⟩ := List.getElem?_eq_some_iff.mp hu
      exact z
    have ea : ∀ b ∈ [e, it], a ≠ b := fun b hb z => by
      have := (hf b hb).1
      rw [← z, hq] at this
      cases this
    have el : e < s.heap.objs.size := Heap.lt_size he
    have il : it < s.heap.objs.size := by obtain ⟨_, q, _⟩ := hit; exact Heap.lt_size q
    have hh : X.A.in1.handled = none := I.ok.hd hc
    refine wpAny_pyNext_enum_itemD (Draws.tuple hh it a (ea it (by simp)) its.toArray) he ⟨hit, p⟩ (by simpa using hlt) ne (by
      intro z
      rcases List.mem_cons.mp z with z | z
      · exact ne z
      · exact ea e (List.mem_cons_self ..) (List.mem_singleton.mp z).symm) fun u2 h' tk hu2 ho st' hT hsz hk => ?_
    have e2 : u2 = u := by
      have : its.toArray[i]? = some u2 := hu2
      rw [List.getElem?_toArray, hu] at this
      exact (Option.some.inj this).symm
    subst e2
    refine ⟨_, rfl, wpAny_letOwnedTupleGo_enum (s := { s with heap := h', toks := tk + 1 }) ho fun h'' he' sb => ?_⟩
    have hT2 : h''.get? s.heap.objs.size = some { cls := .type "tuple", data := .seq #[.int i tk, u2] } := (sb.2 _ (Nat.ne_of_gt el)).trans hT
    have new : ObjOk X.prog X.w (upd H s.heap.objs.size (.tup [.int (i : Nat), x])) h'' s.heap.objs.size (.tup [.int (i : Nat), x]) :=
      ⟨by show 2 ≤ sizeLine; decide, [.int i tk, u2], .cons ⟨_, rfl⟩ (.cons ru .nil), ⟨_, hT2, rfl, _, rfl⟩⟩
    have I1 : Inv X pins σ (upd H s.heap.objs.size (.tup [.int (i : Nat), x])) { s with heap := h'', toks := tk + 1 } :=
      I.turnedNew (ch := [e, it]) (fun b ob hb q => (sb.2 b (fun z => hb (by simp [z]))).trans (hk b ob (fun z => hb (by simp [z])) (fun z => hb (by simp [z])) q)) hf (Nat.le_refl _) new
    refine ⟨.ref s.heap.objs.size, _, I1, rfl, ⟨_, x, rfl, I.hok.fresh (Nat.le_refl _), rfl, fun ys hy => by rw [hq] at hy; cases hy; exact hx⟩, ⟨⟨u2, ?_⟩, st'.1.at fun o q => (sb.2 it (Ne.symm ne)).trans q, ne⟩, fun b hb => ?_⟩
    · have e1 : ((i + 1 : Nat) : Int) = (i : Int) + 1 := by omega
      rw [e1]; exact he'
    · have bl : b < s.heap.objs.size := by
        rcases List.mem_cons.mp hb with z | z
        · rw [z]; exact el
        · rw [List.mem_singleton.mp z]; exact il
      rw [upd_ne (Nat.ne_of_lt bl)]
      exact (hf b hb).1
  done := by
    intro X hP hw hK hc i pins s σ H E I hf st hg
    subst hP hw hK
    obtain ⟨⟨old, he⟩, hit, ne⟩ := st
    obtain ⟨xs, hq, hx⟩ := hg
    obtain ⟨its, rv, p, hz⟩ := I.tuple (.inl (.inl hq))
    obtain ⟨f0, f1, f2, f3, f4, f5⟩ := hf it (by simp)
    have hl := rv.length
    have hh : X.A.in1.handled = none := I.ok.hd hc
    have nea : a ≠ it := fun z => by rw [← z, hq] at f0; cases f0
    have en : i = its.toArray.size := by
      rw [List.size_toArray]
      omega
    subst en
    exact wpAny_pyNext_enum_endD (Draws.tuple hh it a nea its.toArray) he ⟨hit, p⟩ fun h' eb => ⟨rfl, I.turned (t' := s.toks) (fun b o hb q => eb b o hb q) f0 f1 f3 f4 f5⟩
  self := fun A i s Q E st h => by
    obtain ⟨⟨_, he⟩, _⟩ := st
    exact wpAny_pyIter_enum he h
/-! ### enumerate, several targets at once, ranges by steps -/
section
variable {X : Cx} {B : Bx} {e tg : Expr} {m : Rho → R D} {F : Hp}
def enumD (ds : List D) : List D := ds.zipIdx.map fun p => .tup [.int (p.2 : Nat), p.1]
theorem enumD_len (ds : List D) : (enumD ds).length = ds.length := by simp [enumD]
theorem enumD_get {ds : List D} {i : Nat} {d : D} (h : (enumD ds)[i]? = some d) : ∃ x, ds[i]? = some x ∧ d = .tup [.int (i : Nat), x] := by
  unfold enumD at h
  rw [List.getElem?_map, List.getElem?_zipIdx] at h
  cases q : ds[i]? with
  | none => rw [q] at h; cases h
  | some x =>
    rw [q] at h
    simp at h
    exact ⟨x, rfl, h.symm⟩
theorem pair_new {Z : Kx} {B : Bx} {F1 H1 : Hp} {T : Addr} {i : Int} {v : V} {x : D} (s : Same F1 H1) (k : DealOk B.dl H1) (nT : H1 T = none) (r : RpX Z B F1 x v) : ∃ F2, Ext B.dl F1 H1 F2 (upd H1 T (.tup [.int i, v])) ∧ RpX Z B F2 (.tup [.int i, x]) (.ref T) :=
  ⟨_, .lay s k nT _, Rp.tup upd_same (RpL.cons (Rp.int i) (RpL.cons (Rp.mono (same_upd (same_none s nT)) _ _ r) RpL.nil))⟩
theorem wk_enumL {a : Addr} {vs : List V} {ds : List D} (h : F a = some (.lst vs)) (r : RpLX X.kx B F ds vs) : Wk X.kx B (Ite X.K a) (enumD ds) F where
  go := fun F1 H1 i s1 s2 hi => by
    rw [enumD_len, ← RpL.length r] at hi
    exact ⟨vs, vs[i], .inl (.inl (s2 _ _ (s1 _ _ h))), by simp [hi]⟩
  stop := fun F1 H1 s1 s2 => ⟨vs, .inl (.inl (s2 _ _ (s1 _ _ h))), by rw [enumD_len, RpL.length r]; exact Nat.le_refl _⟩
  yld := fun F1 H1 i x H2 d s1 s2 k hd y => by
    obtain ⟨z, ez, rfl⟩ := enumD_get hd
    obtain ⟨v, e, q⟩ := RpL.get r ez
    obtain ⟨T, u, rfl, nT, rfl, y⟩ := y
    have e2 := y vs (.inl (.inl (s2 _ _ (s1 _ _ h))))
    rw [e] at e2
    cases e2
    exact pair_new s2 k nT (Rp.mono s1 _ _ q)
theorem wk_enumT {a : Addr} {vs : List V} {ds : List D} (h : F a = some (.tup vs)) (r : RpLX X.kx B F ds vs) : Wk X.kx B (IteT a) (enumD ds) F where
  go := fun F1 H1 i s1 s2 hi => by
    rw [enumD_len, ← RpL.length r] at hi
    exact ⟨vs, vs[i], s2 _ _ (s1 _ _ h), by simp [hi]⟩
  stop := fun F1 H1 s1 s2 => ⟨vs, s2 _ _ (s1 _ _ h), by rw [enumD_len, RpL.length r]⟩
  yld := fun F1 H1 i x H2 d s1 s2 k hd y => by
    obtain ⟨z, ez, rfl⟩ := enumD_get hd
    obtain ⟨v, e, q⟩ := RpL.get r ez
    obtain ⟨T, u, rfl, nT, rfl, y⟩ := y
    have e2 := y vs (s2 _ _ (s1 _ _ h))
    rw [e] at e2
    cases e2
    exact pair_new s2 k nT (Rp.mono s1 _ _ q)
theorem boot_enum : bootBuiltins "enumerate" = some (.type "enumerate") := by decide +kernel
/-- enumerate of a list or a tuple, told by itself -/
theorem pi_enumB {ta : TA} {p pos tpos : Pos} {elts : List Expr} {kk : Nat} (hg : Gl X "enumerate") (hm : X.mg "enumerate" = none) (ha : PA X [e] ta) (hs : starEach [e] X.env = [(false, eval e X.env)]) :
    PI X (.Tuple elts kk tpos) (.Call (.Name "enumerate" p) [e] [] pos) (fun σ H T => ta σ H fun vs H1 => ∃ a, vs = [.ref a] ∧ ((∃ xs, H1 a = some (.lst xs)) ∧ T (Ite X.K a) H1 ∨ (∃ xs, H1 a = some (.tup xs)) ∧ T (IteT a) H1)) := by
  refine ⟨fun pins s σ H T I h => ?_⟩
  refine PyProof.Rows.Call_ (ld_blt I hg hm boot_enum (PyProof.Rows.callWith_type1 (thn (ha.run pos pins s σ H _ I h) fun us s1 ⟨vs, H1, I1, r1, q1⟩ => ?_) hs rfl))
  obtain ⟨a, ex, q⟩ := q1
  subst ex
  obtain ⟨u, rfl, ru⟩ := Vals.one r1
  obtain rfl : u = Value.ref a := ru
  have two : ∀ b ∈ [s1.heap.objs.size + 1, s1.heap.objs.size], s1.heap.objs.size ≤ b := fun b hb => by
    rcases List.mem_cons.mp hb with z | z
    · rw [z]; exact Nat.le_add_right _ _
    · rw [List.mem_singleton.mp z]; exact Nat.le_refl _
  rcases q with ⟨⟨xs, hq⟩, q⟩ | ⟨⟨xs, hq⟩, q⟩
  · obtain ⟨its, rv, p', hz⟩ := I1.list (.inl (.inl hq))
    refine enum_begins1 (begins_list a its.toArray) p'.isList fun h' he hit hk => wpAny_pyIter_enum he ?_
    exact ⟨s1.heap.objs.size + 1, [s1.heap.objs.size + 1, s1.heap.objs.size], _, _, H1, rfl, I1.kept (t' := s1.toks) hk, turn_enum a (s1.heap.objs.size + 1) s1.heap.objs.size, ⟨⟨.none, he⟩, ⟨_, hit, rfl, rfl⟩, Nat.succ_ne_self _⟩,
      fun b hb => I1.fpOk (two b hb) (I1.hok.fresh (two b hb)), q⟩
  · obtain ⟨its, rv, p', hz⟩ := I1.tuple (.inl (.inl hq))
    refine enum_begins1 (begins_tuple a its.toArray) p' fun h' he hit hk => wpAny_pyIter_enum he ?_
    exact ⟨s1.heap.objs.size + 1, [s1.heap.objs.size + 1, s1.heap.objs.size], _, _, H1, rfl, I1.kept (t' := s1.toks) hk, turn_enumT a (s1.heap.objs.size + 1) s1.heap.objs.size, ⟨⟨.none, he⟩, ⟨_, hit, rfl, rfl⟩, Nat.succ_ne_self _⟩,
      fun b hb => I1.fpOk (two b hb) (I1.hok.fresh (two b hb)), q⟩
def dEnum : List D → R (List D)
  | [.lst ds] => .ok (enumD ds)
  | [.tup ds] => .ok (enumD ds)
  | _ => .stuck
theorem ci_enum {p pos tpos : Pos} {elts : List Expr} {kk : Nat} {ma : Rho → R (List D)} (hm : X.mg "enumerate" = none) (ha : PA X [e] (yA X.kx B ma)) (hg : Gl X "enumerate" := by rfl) (hs : starEach [e] X.env = [(false, eval e X.env)] := by rfl) :
    PI X (.Tuple elts kk tpos) (.Call (.Name "enumerate" p) [e] [] pos) (yI X.kx B (mArgs dEnum ma)) := pi_imp (pi_enumB hg hm ha hs) fun σ H T ⟨F, ρ, ok, q⟩ => seqA ok q fun ds F' H' vs e1 r q1 => by
  have k := ok.step e1
  unfold dEnum at q1
  split at q1
  · unfold RpLX RpL at r
    obtain ⟨v, r', rfl, r1, r2⟩ := r
    unfold RpL at r2
    unfold Rp at r1
    obtain ⟨a, ws, rfl, h1, l1⟩ := r1
    subst r2
    exact ⟨a, rfl, .inl ⟨⟨ws, k.fh _ _ h1⟩, q1 F' H' _ e1 (wk_enumL h1 l1)⟩⟩
  · unfold RpLX RpL at r
    obtain ⟨v, r', rfl, r1, r2⟩ := r
    unfold RpL at r2
    unfold Rp at r1
    obtain ⟨a, ws, rfl, h1, l1⟩ := r1
    subst r2
    exact ⟨a, rfl, .inr ⟨⟨ws, k.fh _ _ h1⟩, q1 F' H' _ e1 (wk_enumT h1 l1)⟩⟩
  · exact q1.elim
/-! range(i, j, c) -/
def dRange3 : List D → R (List D)
  | [.int i, .int j, .int c] => R.grd (big i ∧ big j ∧ c = -1) (.ok (rangeD i (i - j).toNat c))
  | _ => .stuck
theorem ci_range3 {a b c : Expr} {p pos : Pos} {ma : Rho → R (List D)} (hm : X.mg "range" = none) (ha : PA X [a, b, c] (yA X.kx B ma)) (hg : Gl X "range" := by rfl) (hs : starEach [a, b, c] X.env = (false, eval a X.env) :: starEach [b, c] X.env := by rfl) (hpl : (backTo pos (starEach [b, c] X.env)).any (·.1) = false := by rfl) :
    PI X tg (.Call (.Name "range" p) [a, b, c] [] pos) (yI X.kx B (mArgs dRange3 ma)) := pi_imp (pi_range3 hg hm ha hs hpl) fun σ H T ⟨F, ρ, ok, q⟩ => seqA ok q fun ds F' H' vs e1 r q1 => by
  unfold dRange3 at q1
  split at q1
  · rename_i i j c
    obtain ⟨⟨h1, h2, h3⟩, q1⟩ := R.all_grd.mp q1
    subst h3
    unfold RpLX RpL at r
    obtain ⟨v, r', rfl, r1, r2⟩ := r
    unfold RpL at r2
    obtain ⟨v2, r3, rfl, r4, r5⟩ := r2
    unfold RpL at r5
    obtain ⟨v3, r6, rfl, r7, r8⟩ := r5
    unfold RpL at r8
    unfold Rp at r1 r4 r7
    subst r1 r4 r7 r8
    exact ⟨i, j, -1, _, rfl, RgC.neg h1.1 h1.2 h2.1 h2.2, q1 F' H' _ e1 wk_rangeC⟩
  · exact q1.elim
/-! reversed(list), reversed(tuple) -/
theorem wk_revL {a : Addr} {vs : List V} {ds : List D} (h : F a = some (.lst vs)) (r : RpLX X.kx B F ds vs) : Wk X.kx B (Itv X.K a vs.length) ds.reverse F where
  go := fun F1 H1 i s1 s2 hi => by
    rw [List.length_reverse, ← RpL.length r] at hi
    exact ⟨hi, vs, vs[vs.length - 1 - i]'(by omega), .inl (.inl (s2 _ _ (s1 _ _ h))), by simp [show vs.length - 1 - i < vs.length by omega]⟩
  stop := fun F1 H1 s1 s2 => by
    show vs.length ≤ _
    rw [List.length_reverse, RpL.length r]
    exact Nat.le_refl _
  yld := fun F1 H1 i x H2 d s1 s2 k hd y => by
    obtain ⟨rfl, y⟩ := y
    have e2 := y vs (.inl (.inl (s2 _ _ (s1 _ _ h))))
    obtain ⟨v, e, q⟩ := RpL.get (RpL.reverse r) hd
    have hi : i < vs.length := by
      obtain ⟨z, _⟩ := List.getElem?_eq_some_iff.mp e
      rw [List.length_reverse] at z
      exact z
    rw [List.getElem?_reverse hi, e2] at e
    cases e
    exact ⟨F1, .refl s2 k, Rp.mono s1 _ _ q⟩
end
end Y
/-! # Y12 -/
set_option Elab.async false
set_option linter.all false
set_option maxRecDepth 100000
set_option maxHeartbeats 4000000
namespace Y
open PySem PySem.Spec L2

/-! ### repr -/
mutual
theorem noDict : ∀ d : D, d.py.hasDict = false
  | .non => rfl
  | .bl _ => rfl
  | .int _ => rfl
  | .str _ => rfl
  | .tup ds => by unfold D.py PyData.hasDict; exact noDictL ds
  | .lst ds => by unfold D.py PyData.hasDict; exact noDictL ds
  | .obj _ _ _ => rfl
  | .deal => rfl
theorem noDictL : ∀ ds : List D, PyData.hasDictAll (D.pyL ds) = false
  | [] => rfl
  | d :: ds => by unfold D.pyL PyData.hasDictAll; rw [noDict d, noDictL ds]; rfl
end
def repOk (d : D) : Bool := d.plain && d.py.showable && decide (d.py.depth ≤ 60) && decide (d.py.shown.length ≤ 16777216)
def dRepr : List D → R D
  | [d] => R.grd (repOk d = true) (.ok (.str d.py.shown))
  | _ => .stuck
section
variable {X : Cx} {B : Bx}
theorem call_reprD (hr : RG k X.A) : CallR X (.builtin "repr") (fun xs H Q => ∃ x d, xs = [x] ∧ Dp X.K H x d ∧ d.showable = true ∧ d.hasDict = false ∧ d.depth ≤ 60 ∧ d.shown.length ≤ 16777216 ∧ Q (.str d.shown) H) := by
  intro pins s σ H xs us Q I rx h
  obtain ⟨x, d, rfl, hd, hs, hn, hdp, hl, q⟩ := h
  obtain ⟨u, rfl, ru⟩ := Vals.one rx
  have hu := hr.room.units
  cases hd with
  | non =>
    obtain rfl : u = Value.none := ru
    exact PySem.P.repr_of_none ⟨.str (PyData.shown .none), H, I.tok _, ⟨_, rfl⟩, q⟩
  | bl b =>
    obtain rfl : u = Value.bool b := ru
    exact PySem.P.repr_of_bool ⟨.str (PyData.shown (.bool b)), H, I.tok _, ⟨_, by cases b <;> rfl⟩, q⟩
  | int i =>
    obtain ⟨t, rfl⟩ := ru
    unfold PyData.showable at hs
    exact PySem.P.repr_of_int (of_decide_eq_true hs) ⟨.str (PyData.shown (.int i)), H, I.tok _, ⟨_, rfl⟩, q⟩
  | str z =>
    obtain ⟨t, rfl⟩ := ru
    exact PySem.P.repr_of_str ⟨.str (PyData.shown (.str z)), H, I.tok _, ⟨_, rfl⟩, q⟩ (by rw [szl]; exact hl)
  | lst hq ha =>
    rename_i a vs ds
    obtain ⟨as, rd⟩ := Dp.reads I _ _ _ (.lst hq ha) ru
    obtain rfl : u = Value.ref a := ru
    exact repr_of_reads' rd hs (fun e => by rw [hn] at e; cases e) hr.grd (by omega) (fun _ _ z => z) (fun h' w tk hk => ⟨.str _, H, I.kept hk, ⟨_, rfl⟩, q⟩) (by rw [szl]; exact hl)
  | tup hq ha =>
    rename_i a vs ds
    obtain ⟨as, rd⟩ := Dp.reads I _ _ _ (.tup hq ha) ru
    obtain rfl : u = Value.ref a := ru
    exact repr_of_reads' rd hs (fun e => by rw [hn] at e; cases e) hr.grd (by omega) (fun _ _ z => z) (fun h' w tk hk => ⟨.str _, H, I.kept hk, ⟨_, rfl⟩, q⟩) (by rw [szl]; exact hl)
theorem cd_repr : CallD X.kx B (fun xs H Q => ∃ x d, xs = [x] ∧ Dp X.K H x d ∧ d.showable = true ∧ d.hasDict = false ∧ d.depth ≤ 60 ∧ d.shown.length ≤ 16777216 ∧ Q (.str d.shown) H) dRepr := fun ds vs F H Q E s k r q => by
  unfold dRepr at q
  split at q
  · rename_i d
    obtain ⟨hc, q⟩ := R.all_grd.mp q
    unfold repOk at hc
    rw [Bool.and_eq_true, Bool.and_eq_true, Bool.and_eq_true] at hc
    obtain ⟨⟨⟨h1, h2⟩, h3⟩, h4⟩ := hc
    obtain ⟨v, rfl, r1⟩ := one_arg r
    exact ⟨v, d.py, rfl, dpB s h1 r1, h2, noDict d, of_decide_eq_true h3, of_decide_eq_true h4, fin_str s k q⟩
  · exact q.elim
theorem ce_repr {k : Nat} {e : Expr} {es : List Expr} {p pos : Pos} {mr : Rho → R (List D)} (hr : RG k X.A) (ha : PA X (e :: es) (yAB X.kx B mr)) (hm : X.mg "repr" = none) (hg : Gl X "repr" := by rfl) (he : starEach (e :: es) X.env = (false, eval e X.env) :: starEach es X.env := by rfl) (hpl : (backTo pos (starEach es X.env)).any (·.1) = false := by rfl) :
    PE X (.Call (.Name "repr" p) (e :: es) [] pos) (yE X.kx B (mBi dRepr mr)) := ce_bi (call_reprD hr) cd_repr hm (by decide +kernel) ha hg (by decide) (by decide) he hpl
end
end Y
/-! # Y13 -/
set_option Elab.async false
set_option linter.all false
set_option maxRecDepth 100000
set_option maxHeartbeats 4000000
namespace Y
open PySem PySem.Spec L2

/-! ### several names at once -/
/-- what comes into a slot: it stands still, or is a new list of one's own -/
def KV1 (Z : Kx) (B : Bx) (F H F' H' : Hp) (s : Sl) (v : V) : Prop := match s with
  | .no => True
  | .sh d => RpX Z B F' d v
  | .ow ds => ∃ a vs, v = .ref a ∧ F' a = none ∧ H a = none ∧ H' a = some (.lst vs) ∧ RpLX Z B F' ds vs
def yK (Z : Kx) (B : Bx) (m : Rho → R Sl) : TE := fun σ H Q => ∃ F ρ, Ok Z B F H σ ρ ∧ (m ρ).all (fun s => ∀ F' H' v, Ext B.dl F H F' H' → KV1 Z B F H F' H' s v → Q v H') (XpE Z B F H σ)
def mSh (m : Rho → R D) : Rho → R Sl := fun ρ => (m ρ).bind fun d => .ok (.sh d)
def mOw (m : Rho → R (List D)) : Rho → R Sl := fun ρ => (m ρ).bind fun ds => .ok (.ow ds)
def mPar2 (i j : Nat) (a b : Rho → R Sl) : Rho → R Out := fun ρ => lift ρ (a ρ) fun x => lift ρ (b ρ) fun y => .ok (.next ((ρ.set i x).set j y))
def mPar3 (i j l : Nat) (a b c : Rho → R Sl) : Rho → R Out := fun ρ => lift ρ (a ρ) fun x => lift ρ (b ρ) fun y => lift ρ (c ρ) fun z => .ok (.next (((ρ.set i x).set j y).set l z))
section
variable {Z : Kx} {B : Bx} {F H F' H' F2 H2 : Hp} {σ : L2.St} {ρ : Rho}
theorem KV1.step {s : Sl} {v : V} (k : DealOk B.dl H) (h : KV1 Z B F H F' H' s v) (e : Ext B.dl F' H' F2 H2) : KV1 Z B F H F2 H2 s v := by
  cases s with
  | no => trivial
  | sh d => exact Rp.mono e.ff _ _ h
  | ow ds =>
    obtain ⟨a, vs, rfl, n1, n2, h1, r⟩ := h
    exact ⟨a, vs, rfl, e.none_of n1 h1, n2, e.hh a _ h1 (k.nof n2), RpL.mono e.ff _ _ r⟩
theorem Ok.put (k : Ok Z B F H σ ρ) {s : Sl} {v : V} (e : Ext B.dl F H F' H') (h : KV1 Z B F H F' H' s v) (i : Nat) : Ok Z B F' H' (σ.set i (some v)) (ρ.set i s) := by
  cases s with
  | no =>
    have z := ((k.step e).sh (Rp.non (mg := Z.mg) (dl := B.dl)) i)
    have w := ((k.step e).no i)
    refine ⟨w.ext, w.df, w.dk0, by rw [List.length_set]; exact w.len, fun j t et => ?_, fun j l ds es a ne e1 e2 e3 e4 => ?_⟩
    · by_cases hj : i = j
      · subst hj
        rw [List.getElem?_set] at et
        simp only [if_true] at et
        split at et
        · cases et; trivial
        · cases et
      · rw [List.getElem?_set_ne hj]
        exact w.sl j t et
    · have h1 : i ≠ j := fun z => by
        subst z
        rw [List.getElem?_set] at e1
        simp only [if_true] at e1
        split at e1 <;> cases e1
      have h2 : i ≠ l := fun z => by
        subst z
        rw [List.getElem?_set] at e2
        simp only [if_true] at e2
        split at e2 <;> cases e2
      rw [List.getElem?_set_ne h1] at e3
      rw [List.getElem?_set_ne h2] at e4
      exact w.inj j l ds es a ne e1 e2 e3 e4
  | sh d => exact (k.step e).sh h i
  | ow ds =>
    obtain ⟨a, vs, rfl, n1, n2, h1, r⟩ := h
    exact k.own e n1 n2 h1 r i
theorem sK {Q : VK} {m : Rho → R Sl} {g : Sl → R Out} {N : Ends} (ok : Ok Z B F H σ ρ) {P : Out → Prop} (h : (lift ρ (m ρ) g).all P (fun _ => False)) (hx : ∀ x, P (.exc x ρ) → XpE Z B F H σ x)
    (k : ∀ s F' H' v, Ext B.dl F H F' H' → KV1 Z B F H F' H' s v → (g s).all P (fun _ => False) → Q v H') : yK Z B m σ H Q :=
  ⟨F, ρ, ok, R.all_imp (fun d q F' H' v e r => k d F' H' v e r q) (fun x z => hx x z) (R.all_bx.mp h)⟩
end
section
variable {X : Cx} {B : Bx} {a b c e : Expr} {pos : Pos} {m : Rho → R D} {ma mb mc : Rho → R Sl}
theorem ck_sh (h : PE X e (yE X.kx B m)) : PE X e (yK X.kx B (mSh m)) := pe_imp h fun σ H Q ⟨F, ρ, ok, q⟩ => ⟨F, ρ, ok, R.all_imp (fun d z F' H' v e r => z F' H' v e r) (fun _ z => z) (R.all_bind.mp q)⟩
theorem ck_ow {m : Rho → R (List Y.D)} (h : PE X e (yO X.kx B m)) : PE X e (yK X.kx B (mOw m)) := pe_imp h fun σ H Q ⟨F, ρ, ok, q⟩ => ⟨F, ρ, ok, R.all_imp (fun d z F' H' a vs e n1 n2 h1 r => z F' H' (.ref a) e ⟨a, vs, rfl, n1, n2, h1, r⟩) (fun _ z => z) (R.all_bind.mp q)⟩
theorem exc_at {Z : Kx} {B : Bx} {F F' H' : Hp} {σ : L2.St} {ρ : Rho} {N : Ends} (s : Same F F') (ok : Ok Z B F' H' σ ρ) : ∀ x, OutOk Z B F N (.exc x ρ) → XpE Z B F' H' σ x := fun x z F2 H2 c o e q => z F2 H2 σ c o (s.trans e.ff) (ok.step e) q
theorem cs_par2 (i j : Nat) {x y : Str} {px py pt : Pos} {kt k2 : Nat} {pt2 : Pos} (hc : X.calm = true) (hN : X.N.Nodup) (ha : PE X a (yK X.kx B ma)) (hb : PE X b (yK X.kx B mb)) (hi : X.N[i]? = some x := by rfl) (hj : X.N[j]? = some y := by rfl) (hij : i ≠ j := by decide)
    (hx : X.env.scope.names.lookup x = some .local := by rfl) (hy : X.env.scope.names.lookup y = some .local := by rfl)
    (hw : swappedStores [.Tuple [.Name x px, .Name y py] kt pt] (.Tuple [a, b] k2 pt2) X.env = pure (some [x, y]) := by rfl)
    (hs : swapsWithSole [.Tuple [.Name x px, .Name y py] kt pt] (.Tuple [a, b] k2 pt2) pos.line X.env = pure false := by rfl)
    (s1 : starEach [a, b] X.env = (false, eval a X.env) :: starEach [b] X.env := by rfl) (s2 : starEach [b] X.env = (false, eval b X.env) :: starEach [] X.env := by rfl) :
    PS X (.Assign [.Tuple [.Name x px, .Name y py] kt pt] (.Tuple [a, b] k2 pt2) pos) (yS X.kx B (mPar2 i j ma mb)) := ps_imp (ps_par hc hN hi hj hij hx hy (pa_cons ha (pa_cons hb pa_nil s2) s1) hw hs) fun N σ H ⟨F, ρ, ok, q⟩ => by
  refine sK (N := N) ok q (exc_at (Same.refl F) ok) fun u F1 H1 v1 e1 r1 q1 => ?_
  have k1 := ok.step e1
  refine sK (N := N) k1 q1 (exc_at e1.ff k1) fun w F2 H2 v2 e2 r2 q2 => ?_
  refine ⟨v1, v2, rfl, q2 F2 H2 _ (e1.ff.trans e2.ff) ?_⟩
  exact (ok.put e1 r1 i).put e2 r2 j
theorem cs_par3 (i j l : Nat) {x y z : Str} {px py pz pt : Pos} {kt k2 : Nat} {pt2 : Pos} (hc : X.calm = true) (hN : X.N.Nodup) (ha : PE X a (yK X.kx B ma)) (hb : PE X b (yK X.kx B mb)) (he : PE X c (yK X.kx B mc)) (hi : X.N[i]? = some x := by rfl) (hj : X.N[j]? = some y := by rfl) (hl : X.N[l]? = some z := by rfl)
    (hij : i ≠ j := by decide) (hil : i ≠ l := by decide) (hjl : j ≠ l := by decide) (hx : X.env.scope.names.lookup x = some .local := by rfl) (hy : X.env.scope.names.lookup y = some .local := by rfl) (hz : X.env.scope.names.lookup z = some .local := by rfl)
    (hw : swappedStores [.Tuple [.Name x px, .Name y py, .Name z pz] kt pt] (.Tuple [a, b, c] k2 pt2) X.env = pure (some [x, y, z]) := by rfl)
    (hs : swapsWithSole [.Tuple [.Name x px, .Name y py, .Name z pz] kt pt] (.Tuple [a, b, c] k2 pt2) pos.line X.env = pure false := by rfl)
    (s1 : starEach [a, b, c] X.env = (false, eval a X.env) :: starEach [b, c] X.env := by rfl) (s2 : starEach [b, c] X.env = (false, eval b X.env) :: starEach [c] X.env := by rfl) (s3 : starEach [c] X.env = (false, eval c X.env) :: starEach [] X.env := by rfl) :
    PS X (.Assign [.Tuple [.Name x px, .Name y py, .Name z pz] kt pt] (.Tuple [a, b, c] k2 pt2) pos) (yS X.kx B (mPar3 i j l ma mb mc)) := ps_imp (ps_par3 hc hN hi hj hl hij hil hjl hx hy hz (pa_cons ha (pa_cons hb (pa_cons he pa_nil s3) s2) s1) hw hs) fun N σ H ⟨F, ρ, ok, q⟩ => by
  refine sK (N := N) ok q (exc_at (Same.refl F) ok) fun u F1 H1 v1 e1 r1 q1 => ?_
  have k1 := ok.step e1
  refine sK (N := N) k1 q1 (exc_at e1.ff k1) fun w F2 H2 v2 e2 r2 q2 => ?_
  have k2 := k1.step e2
  refine sK (N := N) k2 q2 (exc_at (e1.ff.trans e2.ff) k2) fun w F3 H3 v3 e3 r3 q3 => ?_
  refine ⟨v1, v2, v3, rfl, q3 F3 H3 _ ((e1.ff.trans e2.ff).trans e3.ff) ?_⟩
  exact ((ok.put e1 r1 i).put e2 r2 j).put e3 r3 l
end

/-! ### sum, sorted -/
def D.int? : D → Option Int
  | .int i => some i
  | _ => none
def dSum : List D → R D
  | [.lst ds] => match ds.mapM D.int? with
    | some ns => .ok (.int ns.sum)
    | none => .stuck
  | _ => .stuck
theorem ints_of {mg : Str → Option Value} {dl : DL} {F : Hp} : ∀ {ds : List D} {ns : List Int} {vs : List V}, ds.mapM D.int? = some ns → RpL mg dl F ds vs → vs = ns.map V.int
  | [], ns, vs, e, r => by
    simp at e
    subst e
    unfold RpL at r
    exact r
  | d :: ds, ns, vs, e, r => by
    unfold RpL at r
    obtain ⟨v, r', rfl, q, t⟩ := r
    rw [List.mapM_cons] at e
    cases d with
    | int i =>
      cases em : ds.mapM D.int? with
      | none => rw [em] at e; cases e
      | some ms =>
        rw [em] at e
        cases e
        unfold Rp at q
        subst q
        rw [List.map_cons, ints_of em t]
    | _ => cases e
def pairD (k : Int × Int) : D := .tup [.int k.1, .int k.2]
/-- pairs of ints that stand in order already -/
def InOrder (ds : List D) : Prop := ∃ ks : List (Int × Int), ds = ks.map pairD ∧ ks.Pairwise fun a b => SrtO.lexB b a = false
open Classical in
noncomputable def dSortP : List D → R D
  | [.lst ds] => R.grd (InOrder ds) (.ok (.lst ds))
  | _ => .stuck
section
variable {X : Cx} {B : Bx}
theorem cd_sum : CallD X.kx B (rSum X.K) dSum := fun ds vs F H Q E s k r q => by
  unfold dSum at q
  split at q
  · split at q
    · rename_i ns en
      obtain ⟨v, rfl, r1⟩ := one_arg r
      obtain ⟨p, ws, rfl, h1, l1⟩ := r1.lst s
      have ew := ints_of en l1
      subst ew
      exact ⟨p, ns, rfl, .inl (.inl h1), fin_int s k q⟩
    · exact q.elim
  · exact q.elim
def keyV (H : Hp) (v : V) : Int × Int := match v with
  | .ref t => match H t with
    | some (.tup [.int i, .int j]) => (i, j)
    | _ => (0, 0)
  | _ => (0, 0)
theorem pairs_keys {mg : Str → Option Value} {dl : DL} {F H : Hp} (s : Same F H) : ∀ {ks : List (Int × Int)} {vs : List V}, RpL mg dl F (ks.map pairD) vs → (∀ v ∈ vs, ∃ t, v = .ref t ∧ H t = some (.tup [.int (keyV H v).1, .int (keyV H v).2])) ∧ vs.map (keyV H) = ks
  | [], vs, r => by
    rw [List.map_nil] at r
    unfold RpL at r
    subst r
    exact ⟨fun v h => absurd h List.not_mem_nil, rfl⟩
  | k :: ks, vs, r => by
    rw [List.map_cons] at r
    unfold RpL at r
    obtain ⟨v, r', rfl, q, t⟩ := r
    obtain ⟨h1, h2⟩ := pairs_keys s t
    unfold pairD Rp at q
    obtain ⟨a, ws, rfl, ha, rl⟩ := q
    unfold RpL at rl
    obtain ⟨v1, r1, rfl, q1, t1⟩ := rl
    unfold RpL at t1
    obtain ⟨v2, r2, rfl, q2, t2⟩ := t1
    unfold RpL at t2
    unfold Rp at q1 q2
    subst q1 q2 t2
    have hk : keyV H (.ref a) = k := by
      unfold keyV
      simp only [s _ _ ha]
    refine ⟨fun v hv => ?_, by rw [List.map_cons, hk, h2]⟩
    rcases List.mem_cons.mp hv with z | z
    · subst z
      exact ⟨a, rfl, by rw [hk]; exact s _ _ ha⟩
    · exact h1 v z
open Classical in
theorem cd_sortP : CallD X.kx B (rSortedPO X.K) dSortP := fun ds vs F H Q E s k r q => by
  unfold dSortP at q
  split at q
  · obtain ⟨⟨ks, rfl, hp⟩, q⟩ := R.all_grd.mp q
    obtain ⟨v, rfl, r1⟩ := one_arg r
    obtain ⟨p, ws, rfl, h1, l1⟩ := r1.lst s
    obtain ⟨g1, g2⟩ := pairs_keys s l1
    refine ⟨p, ws, keyV H, rfl, .inl (.inl h1), g1, fun ys A hs hb hA => ?_⟩
    have sw : SrtO.Srtd (ltP (keyV H)) ws := by
      have e : ks = ws.map (keyV H) := g2.symm
      rw [e] at hp
      exact List.Pairwise.of_map _ (fun a b h => h) hp
    have ey : ys = ws := SrtO.stb_uniq (ltP_swo _) hs sw hb
    subst ey
    exact fin_lst s k l1 q A hA
  · exact q.elim
variable {k : Nat} {e : Expr} {es : List Expr} {p pos : Pos} {mr : Rho → R (List D)} (ha : PA X (e :: es) (yAB X.kx B mr)) (hc : X.calm = true)
include ha hc
theorem ce_sum (hm : X.mg "sum" = none) (hg : Gl X "sum" := by rfl) (he : starEach (e :: es) X.env = (false, eval e X.env) :: starEach es X.env := by rfl) (hpl : (backTo pos (starEach es X.env)).any (·.1) = false := by rfl) :
    PE X (.Call (.Name "sum" p) (e :: es) [] pos) (yE X.kx B (mBi dSum mr)) := ce_bi (cr_sum hc) cd_sum hm (by decide +kernel) ha hg (by decide) (by decide) he hpl
omit hc in
theorem ce_sortP (hm : X.mg "sorted" = none) (hg : Gl X "sorted" := by rfl) (he : starEach (e :: es) X.env = (false, eval e X.env) :: starEach es X.env := by rfl) (hpl : (backTo pos (starEach es X.env)).any (·.1) = false := by rfl) :
    PE X (.Call (.Name "sorted" p) (e :: es) [] pos) (yE X.kx B (mBi dSortP mr)) := ce_bi cr_sortedPO cd_sortP hm (by decide +kernel) ha hg (by decide) (by decide) he hpl
end

/-! ### isinstance against a built-in class -/
def D.tyName : D → Option String
  | .non => some "NoneType"
  | .bl _ => some "bool"
  | .int _ => some "int"
  | .str _ => some "str"
  | .tup _ => some "tuple"
  | .lst _ => some "list"
  | _ => none
def dIsi (T : String) (d : D) : R D := match d.tyName with
  | some a => match kitB a T with
    | some b => .ok (.bl b)
    | none => .stuck
  | none => .stuck
theorem ty_of {Z : Kx} {B : Bx} {F H : Hp} {d : D} {v : V} {a : String} (s : Same F H) (h : d.tyName = some a) (r : RpB Z B F H d v) : TyX Z.K H v (.type a) := by
  cases d with
  | non => cases h; cases r.non; exact .base .non
  | bl b => cases h; cases r.bl; exact .base (.bl b)
  | int b => cases h; cases r.int; exact .base (.int b)
  | str b => cases h; cases r.str; exact .base (.str b)
  | tup ds =>
    cases h
    obtain ⟨p, ws, rfl, h1, _⟩ := r.tup s
    exact .base (.tup h1)
  | lst ds =>
    cases h
    obtain ⟨p, ws, rfl, h1, _⟩ := r.lst s
    exact .base (.lst h1)
  | obj c ks ds => cases h
  | deal => cases h
theorem ce_isi {X : Cx} {B : Bx} (T : String) {x : Str} {e : Expr} {p p2 pos : Pos} {m : Rho → R D} (he : PE X e (yB X.kx B m)) (hm : X.mg "isinstance" = none) (hT : X.mg x = none) (hb : bootBuiltins x = some (.type T) := by decide +kernel) (hg : Gl X "isinstance" := by rfl) (hgT : Gl X x := by rfl) (hx : x ≠ "__name__" := by decide) (hd : (x == ("__debug__" : Str)) = false := by decide)
    (s1 : starEach [e, .Name x p2] X.env = (false, eval e X.env) :: starEach [.Name x p2] X.env := by rfl) (s2 : starEach [.Name x p2] X.env = (false, eval (.Name x p2) X.env) :: starEach [] X.env := by rfl) (hpl : (backTo pos (starEach [.Name x p2] X.env)).any (·.1) = false := by rfl) :
    PE X (.Call (.Name "isinstance" p) [e, .Name x p2] [] pos) (yE X.kx B (mUn (dIsi T) m)) :=
  pe_imp (pe_callB call_isi hg hm (by decide +kernel) (pa_cons he (pa_cons (pe_bltn (v := .ty T) hgT hT hb rfl hx hd) pa_nil s2) s1) (by decide) (by decide) s1 hpl) fun σ H Q ⟨F, ρ, ok, q⟩ => seqB ok q fun d F' H' v e1 r q1 => by
    have k := ok.step e1
    unfold dIsi at q1
    split at q1
    · rename_i a ea
      split at q1
      · rename_i b eb
        exact ⟨v, .ty T, .type a, .type T, b, rfl, .ty T, ty_of k.fh ea r, kit_ty eb, fin_bl k.fh k.dk (PE1.step q1 e1)⟩
      · exact q1.elim
    · exact q1.elim

/-! ### xs[::-1] of a list, a new list of one's own -/
def mRevL (m : Rho → R D) : Rho → R (List D) := fun ρ => (m ρ).bind fun d => match d with
  | .lst xs => .ok xs.reverse
  | _ => .stuck
theorem co_rev {X : Cx} {B : Bx} {e : Expr} {k : Nat} {p1 p2 p3 pos : Pos} {m : Rho → R D} (he : PE X e (yB X.kx B m)) : PE X (.Subscript e (.Slice none none (some (.UnaryOp .USub (.Constant (.int 1) k p1) p2)) p3) pos) (yO X.kx B (mRevL m)) :=
  pe_imp (pe_revL he) fun σ H Q ⟨F, ρ, ok, q⟩ => seqB ok q fun d F' H' v e1 r q1 => by
    have k := ok.step e1
    split at q1
    · obtain ⟨p, ws, rfl, h1, l1⟩ := r.lst k.fh
      refine ⟨p, ws, rfl, .inl (.inl h1), fun l hl => ?_⟩
      exact q1 _ _ l _ (e1.trans (.own k.fh k.dk hl _)) (same_none k.fh hl) (e1.new_old hl) upd_same (RpL.reverse l1)
    · exact q1.elim

/-! ### calls with keywords: the values, then an order of them -/
def pick {α : Type} (π : List Nat) (xs : List α) : List α := π.filterMap (xs[·]?)
theorem pick_vals (π : List Nat) {vs : List V} {us : List Value} (r : Vals vs us) : Vals (pick π vs) (pick π us) := by
  induction π with
  | nil => exact .nil
  | cons i π ih =>
    unfold pick at ih ⊢
    cases e : vs[i]? with
    | none => rw [List.filterMap_cons_none e, List.filterMap_cons_none (r.none_of e)]; exact ih
    | some v =>
      obtain ⟨u, eu, ru⟩ := r.get e
      rw [List.filterMap_cons_some e, List.filterMap_cons_some eu]
      exact .cons ru ih
theorem pick_rp (π : List Nat) {mg : Str → Option Value} {dl : DL} {F : Hp} {ds : List D} {vs : List V} (r : RpL mg dl F ds vs) : RpL mg dl F (pick π ds) (pick π vs) := by
  induction π with
  | nil => exact RpL.nil
  | cons i π ih =>
    unfold pick at ih ⊢
    cases e : ds[i]? with
    | none =>
      have e2 : vs[i]? = none := by
        rw [List.getElem?_eq_none_iff] at e ⊢
        rw [RpL.length r]
        exact e
      rw [List.filterMap_cons_none e, List.filterMap_cons_none e2]
      exact ih
    | some d =>
      obtain ⟨v, ev, rv⟩ := RpL.get r e
      rw [List.filterMap_cons_some e, List.filterMap_cons_some ev]
      exact RpL.cons rv ih
def KwTo (fd : FuncData) (ps ks : List Str) (n : Nat) (π : List Nat) : Prop := ∀ (s : Shared) (us ws : List Value), us.length = n → ws.length = ks.length → BindsTo s fd ⟨us, ks.zip ws⟩ (ps.zip (pick π (us ++ ws)))
theorem kwTo_mk {K : PySem.W.Frag} {x qual : Str} {st : Stmt} {f : Addr} {fd : FuncData} {ps ks : List Str} {n : Nat} {π : List Nat} (F : Fun K x qual st f fd)
    (h : ∀ (kV doc pm : Value) (an : Option Addr) (cdv ct : Value) (us ws : List Value), us.length = n → ws.length = ks.length → bindArgs (PySem.W.fnOf x qual (defArgs st) (defBody st) (defScope st) .none kV doc pm an cdv ct) ⟨us, ks.zip ws⟩ = pure (ps.zip (pick π (us ++ ws)))) : KwTo fd ps ks n π := by
  obtain ⟨oc, od, kV, doc, pm, an, cdv, ct, osl, rfl, _, _⟩ := F.ex
  exact fun s us ws h1 h2 => .of_eq (h kV doc pm an cdv ct us ws h1 h2)
/-- a def of the text, callable by its name with these keywords -/
def CalK (P : Program) (w : World) (K : PySem.W.Frag) (mg : Str → Option Value) (base : Heap) (k : Nat) (x : Str) (ks : List Str) (n : Nat) (π : List Nat) (a : Nat) (m : List D → R D) : Prop :=
  ∃ f fd ps, ps.length = a ∧ FnG P w K mg base k f fd ps (spD ⟨K, mg⟩ a m) ∧ mg x = some (.ref f) ∧ PySem.W.keepIn K (.ref f) = true ∧ KwTo fd ps ks n π
def mCallK (π : List Nat) (a n k : Nat) (m : List D → R D) (ma mk : Rho → R (List D)) : Rho → R D := fun ρ => (ma ρ).bind fun ds => (mk ρ).bind fun es => R.grd (ds.length = n ∧ es.length = k ∧ (pick π (ds ++ es)).length = a) (m (pick π (ds ++ es)))
section
variable {X : Cx} {B : Bx} {k j n a : Nat} {x : Str} {p pos : Pos} {e : Expr} {es : List Expr} {kws : List Keyword} {m : List D → R D} {ma mk : Rho → R (List D)} {ks : List Str} {π : List Nat}
theorem kw_nil : PK X [] (yA X.kx B mNil) := ⟨fun pos pins s σ H Q I ⟨F, ρ, ok, q⟩ => pk_nil.run pos pins s σ H Q I (q F H [] (.refl ok.fh ok.dk) RpL.nil)⟩
theorem kw_cons {nm : Option Str} {kp : Pos} {m : Rho → R D} (he : PE X e (yE X.kx B m)) (hr : PK X kws (yA X.kx B ma)) : PK X (⟨nm, e, kp⟩ :: kws) (yA X.kx B (mCons m ma)) := ⟨fun pos pins s σ H Q I ⟨F, ρ, ok, q⟩ => (pk_cons he hr).run pos pins s σ H Q I (by
  refine seqE ok q fun x F1 H1 v1 e1 r1 q1 => ?_
  refine seqA (ok.step e1) q1 fun xs F2 H2 vs e2 r2 q2 => ?_
  exact q2 F2 H2 (v1 :: vs) (e1.trans e2) (RpL.cons (Rp.mono e2.ff _ _ r1) r2))⟩
theorem runGK {E : L2.St → XK} {f : Addr} {fd : FuncData} {ps : List Str} {sp : Sp} {pins : List (Addr × Obj)} {σ : L2.St} {H : Hp} {s : Shared} {Q : VK} {us ws : List Value} {vs zs : List V} (F : FnG X.prog X.w X.K X.mg X.base k f fd ps sp) (rg : RG k X.A) (hb : KwTo fd ps ks n π) (hx : PassesAt (L2.CX X.prog X.w) X σ (E σ))
    (I : L2.Inv X pins σ H s) (r : Vals vs us) (rz : Vals zs ws) (l1 : vs.length = n) (l2 : zs.length = ks.length) (h : sp (pick π (vs ++ zs)) H Q (E σ)) : wpAny (model X.prog X.w) X.A (call (.ref f) us (ks.zip ws)) (EP X pins σ Q) X.xe s := by
  refine wpAny_call (codeAny_mono (F.run X.A X.stack s H ⟨us, ks.zip ws⟩ _ _ Q (E σ) rg I.env0 (hb s us ws (r.length.symm.trans l1) (rz.length.symm.trans l2)) (pick_vals π (r.append rz)) h) fun z s' hz => ?_)
  rcases z with z | z
  · exact hx pins H s z s' I hz
  · cases z with
    | ret u => exact I.after hz
    | next => exact False.elim hz
    | brk => exact False.elim hz
    | cont => exact False.elim hz
theorem ce_callK (G : CalK X.prog X.w X.K X.mg X.base j x ks n π a m) (hr : RG k X.A) (hj : j ≤ k) (tk : Takes X B.W) (ha : PA X (e :: es) (yA X.kx B ma)) (hkw : PK X kws (yA X.kx B mk)) (hg : Gl X x := by rfl) (hall : (backToKw pos (keywordEach kws X.env)).all (·.1.isSome) = true := by rfl) (hks : (backToKw pos (keywordEach kws X.env)).filterMap (·.1) = ks := by rfl)
    (hdb : (x == ("__debug__" : Str)) = false := by decide) (he : starEach (e :: es) X.env = (false, eval e X.env) :: starEach es X.env := by rfl) (hpl : ((backTo pos (starEach (e :: es) X.env)).any (·.1) || (backToKw pos (keywordEach kws X.env)).any (·.1.isNone)) = false := by rfl) :
    PE X (.Call (.Name x p) (e :: es) kws pos) (yE X.kx B (mCallK π a n ks.length m ma mk)) := ⟨fun pins s σ H Q I ⟨F, ρ, ok, q⟩ => by
  obtain ⟨f, fd, ps, ea, Ff, hm, hk, hb⟩ := G
  refine wpAny_Call_Name_kw (ld_glob I hg hm ?_ hdb)
  refine PySem.W.callWith_KW (h₀ := X.base) I.ok.mod.kin hk hall ?_ hpl he
  have h1 : yA X.kx B ma σ H fun vs H1 => yA X.kx B mk σ H1 fun zs H2 => vs.length = n ∧ zs.length = ks.length ∧ spD ⟨X.K, X.mg⟩ a m (pick π (vs ++ zs)) H2 Q (WE B.W σ) := by
    refine seqA ok q fun ds F1 H1 vs e1 r1 q1 => ?_
    refine seqA (ok.step e1) q1 fun fs F2 H2 zs e2 r2 q2 => ?_
    obtain ⟨⟨hl1, hl2, hl3⟩, q2⟩ := R.all_grd.mp q2
    have k2 := (ok.step e1).step e2
    have rr := pick_rp π (RpL.append (RpL.mono e2.ff _ _ r1) r2)
    refine ⟨by rw [RpL.length r1]; exact hl1, by rw [RpL.length r2]; exact hl2, B.dl, F2, _, hl3, k2.fh, k2.dk, k2.df, rr, R.all_imp (fun d z F3 H3 v e3 r3 => z F3 H3 v ((e1.trans e2).trans e3) r3) (fun x z F3 H3 c o e3 w => z F3 H3 c o e3 w) q2⟩
  refine thn (ha.run pos pins s σ H _ I h1) fun us s1 ⟨vs, H1, I1, r, q⟩ => ?_
  refine thn (hkw.run pos pins s1 σ H1 _ I1 q) fun ws s2 ⟨zs, H2, I2, rz, l1, l2, q2⟩ => ⟨I2.kIn, ?_⟩
  rw [hks]
  exact runGK (E := WE B.W) Ff (hr.mono hj) hb (passAt tk σ) I2 r rz l1 l2 q2⟩
theorem ce_callK0 (G : CalK X.prog X.w X.K X.mg X.base j x ks 0 π a m) (hr : RG k X.A) (hj : j ≤ k) (tk : Takes X B.W) (hkw : PK X kws (yA X.kx B mk)) (hg : Gl X x := by rfl) (hall : (backToKw pos (keywordEach kws X.env)).all (·.1.isSome) = true := by rfl) (hks : (backToKw pos (keywordEach kws X.env)).filterMap (·.1) = ks := by rfl)
    (hdb : (x == ("__debug__" : Str)) = false := by decide) (hpl : ((backTo pos (starEach [] X.env)).any (·.1) || (backToKw pos (keywordEach kws X.env)).any (·.1.isNone)) = false := by rfl) :
    PE X (.Call (.Name x p) [] kws pos) (yE X.kx B (mCallK π a 0 ks.length m mNil mk)) := ⟨fun pins s σ H Q I ⟨F, ρ, ok, q⟩ => by
  obtain ⟨f, fd, ps, ea, Ff, hm, hk, hb⟩ := G
  refine wpAny_Call_Name_kw (ld_glob I hg hm ?_ hdb)
  refine PySem.W.callWith_KW0 (h₀ := X.base) I.ok.mod.kin hk hall ?_ hpl
  have h1 : yA X.kx B mk σ H fun zs H2 => zs.length = ks.length ∧ spD ⟨X.K, X.mg⟩ a m (pick π ([] ++ zs)) H2 Q (WE B.W σ) := by
    refine seqA ok q fun fs F2 H2 zs e2 r2 q2 => ?_
    obtain ⟨⟨hl1, hl2, hl3⟩, q2⟩ := R.all_grd.mp q2
    have k2 := ok.step e2
    have rr := pick_rp π r2
    refine ⟨by rw [RpL.length r2]; exact hl2, B.dl, F2, _, hl3, k2.fh, k2.dk, k2.df, rr, R.all_imp (fun d z F3 H3 v e3 r3 => z F3 H3 v (e2.trans e3) r3) (fun x z F3 H3 c o e3 w => z F3 H3 c o e3 w) q2⟩
  refine thn (hkw.run pos pins s σ H _ I h1) fun ws s2 ⟨zs, H2, I2, rz, l2, q2⟩ => ⟨I2.kIn, ?_⟩
  rw [hks]
  exact runGK (E := WE B.W) Ff (hr.mono hj) hb (passAt tk σ) I2 .nil rz rfl l2 q2⟩
end
end Y
/-! # Y14 -/
set_option Elab.async false
set_option linter.all false
set_option maxRecDepth 100000
set_option maxHeartbeats 4000000
namespace Y
open PySem PySem.Spec L2

/-! ### one's own lists by + and * -/
def mAddL (a b : Rho → R D) : Rho → R (List D) := fun ρ => (a ρ).bind fun x => (b ρ).bind fun y => match x, y with
  | .lst xs, .lst ys => R.grd (xs.length + ys.length ≤ 16777216) (.ok (xs ++ ys))
  | _, _ => .stuck
def mMulL (a b : Rho → R D) : Rho → R (List D) := fun ρ => (a ρ).bind fun x => (b ρ).bind fun y => match x, y with
  | .lst xs, .int k => R.grd (-(2 ^ 63) ≤ k ∧ k < 2 ^ 63 ∧ xs.length * k.toNat ≤ 16777216) (.ok (List.replicate k.toNat xs).flatten)
  | _, _ => .stuck
section
variable {X : Cx} {B : Bx} {a b : Expr} {pos : Pos} {ma mb : Rho → R D}
theorem co_add (ha : PE X a (yB X.kx B ma)) (hb : PE X b (yB X.kx B mb)) : PE X (.BinOp a .Add b pos) (yO X.kx B (mAddL ma mb)) := pe_imp (pe_op op_cat ha hb) fun σ H Q ⟨F, ρ, ok, q⟩ => by
  refine seqB ok q fun x F1 H1 v1 e1 r1 q1 => ?_
  refine seqB (ok.step e1) q1 fun y F2 H2 v2 e2 r2 q2 => ?_
  have k := (ok.step e1).step e2
  split at q2
  · obtain ⟨hl, q2⟩ := R.all_grd.mp q2
    obtain ⟨p1, w1, rfl, h1, l1⟩ := (r1.step e2).lst k.fh
    obtain ⟨p2, w2, rfl, h2, l2⟩ := r2.lst k.fh
    refine ⟨p1, p2, w1, w2, rfl, rfl, h1, h2, by rw [RpL.length l1, RpL.length l2, szl]; exact hl, fun l hl => ?_⟩
    have e12 := e1.trans e2
    exact q2 _ _ l _ (e12.trans (.own k.fh k.dk hl _)) (same_none k.fh hl) (e12.new_old hl) upd_same (RpL.append l1 l2)
  · exact q2.elim
theorem co_mul (ha : PE X a (yB X.kx B ma)) (hb : PE X b (yB X.kx B mb)) : PE X (.BinOp a .Mult b pos) (yO X.kx B (mMulL ma mb)) := pe_imp (pe_op op_rep ha hb) fun σ H Q ⟨F, ρ, ok, q⟩ => by
  refine seqB ok q fun x F1 H1 v1 e1 r1 q1 => ?_
  refine seqB (ok.step e1) q1 fun y F2 H2 v2 e2 r2 q2 => ?_
  have k := (ok.step e1).step e2
  split at q2
  · obtain ⟨hl, q2⟩ := R.all_grd.mp q2
    obtain ⟨p1, w1, rfl, h1, l1⟩ := (r1.step e2).lst k.fh
    cases r2.int
    refine ⟨p1, _, w1, rfl, rfl, h1, hl.1, hl.2.1, by rw [RpL.length l1, szl]; exact hl.2.2, fun l hl => ?_⟩
    have e12 := e1.trans e2
    exact q2 _ _ l _ (e12.trans (.own k.fh k.dk hl _)) (same_none k.fh hl) (e12.new_old hl) upd_same (RpL.rep l1 _)
  · exact q2.elim
theorem ct_yes : PTs X [] (yT X.kx B mYes) := ⟨fun pins s σ H Q I ⟨F, ρ, ok, q⟩ => pts_nil.run pins s σ H Q I (q F H (.refl ok.fh ok.dk))⟩
end

/-! ### xs[::-1] of a tuple -/
section
variable {prog : Program} {w : World} {A : Around} {E : Value → Shared → Prop} {s : Shared}
theorem adjust_back (n : Nat) : Builtin.Slice.sliceAdjust none none (-1) (n : Int) = ((n : Int) - 1, -1) := rfl
theorem places_back (n : Nat) : Builtin.Slice.slicePlaces ((n : Int) - 1) (-1) (-1) = n := by
  unfold Builtin.Slice.slicePlaces
  have h1 : ¬ ((-1 : Int) > 0) := by decide
  simp only [h1, if_false]
  have e : ((n : Int) - 1 - -1 - 1) / (- -1) = (n : Int) - 1 := by
    rw [show (- -1 : Int) = 1 by decide, Int.ediv_one]
    omega
  rw [e]
  split <;> omega
theorem sliceApplied_back {sl : Addr} {n : Nat} {vs : Value} {Q : Int × Int × Nat → Shared → Prop} (hs : s.heap.IsSliceOf sl .none .none vs) (ps : IsPart vs (some (-1))) (h : Q ((n : Int) - 1, -1, n) s) :
    wpAny (model prog w) A (Builtin.Slice.sliceApplied (.ref sl) (pure (n : Int))) Q E s := by
  obtain ⟨os, hos, hcs, hds⟩ := id hs
  unfold Builtin.Slice.sliceApplied Builtin.Slice.sliceFields
  refine wpAny_bind (wpAny_bind (wpAny_field hos hds (x := .none) rfl (wpAny_bind (wpAny_field hos hds (x := .none) rfl (wpAny_bind (wpAny_field hos hds (x := vs) rfl (wpAny_pure ?_)))))))
  refine wpAny_bind (HT.slicePart_ ps ?_)
  show wpAny _ _ (if ((-1 : Int) == 0) = true then _ else _) _ _ s
  rw [if_neg (by decide)]
  refine wpAny_bind (HT.slicePart_ .none (wpAny_bind (HT.slicePart_ .none (wpAny_bind (wpAny_pure ?_)))))
  show wpAny _ _ (match Builtin.Slice.sliceAdjust none none (-1) (n : Int) with | (lo, hi) => pure (lo, (-1 : Int), Builtin.Slice.slicePlaces lo hi (-1))) _ _ s
  rw [adjust_back]
  show wpAny _ _ (pure ((n : Int) - 1, (-1 : Int), Builtin.Slice.slicePlaces ((n : Int) - 1) (-1) (-1))) _ _ s
  rw [places_back]
  exact wpAny_pure h
theorem pick_back (xs : Array Value) : ((List.range xs.size).filterMap fun (m : Nat) => xs[(((xs.size : Int) - 1) + (m : Int) * -1).toNat]?).toArray = xs.toList.reverse.toArray := by
  have e : (fun (m : Nat) => xs[(((xs.size : Int) - 1) + (m : Int) * -1).toNat]?) = (xs[·]?) ∘ fun (m : Nat) => (((xs.size : Int) - 1) + (m : Int) * -1).toNat := rfl
  rw [e, ← List.filterMap_map]
  have e2 : (List.range xs.size).map (fun (m : Nat) => (((xs.size : Int) - 1) + (m : Int) * -1).toNat) = (List.range xs.size).map fun k => xs.size - 1 - k := by
    apply List.map_congr_left
    intro k hk
    have := List.mem_range.mp hk
    omega
  rw [e2, PySem.W.krv_range, List.filterMap_reverse, PySem.W.krv_all]
theorem getItem_tuple_back {t sl : Addr} {items : Array Value} {vs : Value} {Q : Value → Shared → Prop} (ht : PyProof.Rows.IsTup s.heap t items) (hs : s.heap.IsSliceOf sl .none .none vs) (ps : IsPart vs (some (-1)))
    (h : Q (.ref s.heap.objs.size) { s with heap := s.heap.push { cls := .type "tuple", data := .seq items.toList.reverse.toArray } })
    (hsz : items.size ≤ sizeLine) : wpAny (model prog w) A (getItem (.ref t) (.ref sl)) Q E s := by
  have hrev : sizeOk (.seq items.toList.reverse.toArray) := by
    show items.toList.reverse.toArray.size ≤ sizeLine
    rw [List.size_toArray, List.length_reverse, Array.length_toList]
    exact hsz
  obtain ⟨os, hos, hcs, hds⟩ := id hs
  have hTs : s.TypeIs (.ref sl) "slice" := ⟨os, hos, hcs⟩
  unfold getItem
  try with_reducible refine wpAny_holding ?_
  first | refine wpAny_bind (wpAny_pure ?_) | skip
  refine wpAny_bind (wpAny_sequenceKey ht.typeIs (by decide) ?_)
  refine wpAny_bind (wpAny_callSpecial?_slot (name := Str.ofString "__getitem__") ht.typeIs PyProof.Rows.slot_tuple_getitem
    (wpAny_call_entry PyProof.Rows.slot_tuple_getitem ht.typeIs PyProof.Rows.entry_tuple_getitem ?_ (PyProof.Rows.args_tuple_getitem _ _)))
  show wpAny _ _ (Builtin.Tuple.tupleItemsOf (.ref t) >>= _) _ _ s
  refine wpAny_bind (PyProof.Rows.tupleItemsOf_ ht ?_)
  refine wpAny_bind (wpAny_typeOf hTs ?_)
  rw [if_pos (by decide)]
  refine wpAny_bind (sliceApplied_back hs ps ?_)
  have hno : ¬ (((((items.size : Int) - 1) == 0) && (-1 : Int) == 1 && items.size == items.size) = true) := by
    rw [show ((-1 : Int) == 1) = false by decide, Bool.and_false, Bool.false_and]
    exact Bool.false_ne_true
  show wpAny _ _ (if ((((items.size : Int) - 1) == 0) && (-1 : Int) == 1 && items.size == items.size) = true then _ else _) _ _ s
  rw [if_neg hno, pick_back]
  first
    | exact wpAny_bind (m := Builtin.Tuple.tupleExact _) (wpAny_newObj_type (wpAny_pure ⟨_, rfl, wpAny_pure h⟩) hrev)
    | exact wpAny_bind (m := Builtin.Tuple.tupleExact _) (wpAny_newObj_type (wpAny_bind (wpAny_pure (wpAny_pure ⟨_, rfl, wpAny_pure h⟩))) hrev)
    | exact wpAny_bind (wpAny_bind (m := Builtin.Tuple.tupleExact _) (wpAny_newObj_type (wpAny_pure (wpAny_pure ⟨_, rfl, wpAny_pure h⟩)) hrev))
    | exact wpAny_bind (wpAny_bind (m := Builtin.Tuple.tupleExact _) (wpAny_newObj_type (wpAny_pure ⟨_, rfl, wpAny_pure h⟩) hrev))
end
/-- the new thing turned round: of a list, of a tuple -/
def tBack (K : PySem.W.Frag) (te : TE) : TE := fun σ H Q => te σ H fun x H1 => ∃ a xs, x = .ref a ∧ (SqL K H1 a xs ∧ (∀ p, H1 p = none → Q (.ref p) (upd H1 p (.lst xs.reverse))) ∨ SqT K H1 a xs ∧ (∀ p, H1 p = none → Q (.ref p) (upd H1 p (.tup xs.reverse))))
theorem pe_back {X : Cx} {e : Expr} {te : TE} {k : Nat} {p1 p2 p3 pos : Pos} (he : PE X e te) : PE X (.Subscript e (.Slice none none (some (.UnaryOp .USub (.Constant (.int 1) k p1) p2)) p3) pos) (tBack X.K te) := by
  refine ⟨fun pins s σ H Q I h => ?_⟩
  refine PyProof.Rows.Subscript_ (thn (he.run pins s σ H _ I h) fun v s1 ⟨x, H1, I1, r1, q1⟩ => ?_)
  obtain ⟨a, xs, ex, q⟩ := q1
  subst ex
  cases r1
  have hst : PO X (some (.UnaryOp .USub (.Constant (.int 1) k p1) p2)) (tPart (tUn (rU fun i => .int (-i)) (tC (.int 1)))) := po_some (pe_un un_neg pe_int)
  refine wpAny_Slice (thn (po_none.run pins s1 σ H1 (fun o H2 => o = none ∧ H2 = H1) I1 ⟨rfl, rfl⟩) fun vl s2 ⟨l, H2, I2, pl, el, e2⟩ => ?_)
  subst el e2
  refine thn (po_none.run pins s2 σ H2 (fun o H3 => o = none ∧ H3 = H2) I2 ⟨rfl, rfl⟩) fun vu s3 ⟨u, H3, I3, pu, eu, e3⟩ => ?_
  subst eu e3
  refine thn (hst.run pins s3 σ H3 (fun o H4 => o = some (-1) ∧ H4 = H3) I3 ⟨1, rfl, -1, rfl, rfl, rfl⟩) fun vs s4 ⟨o, H4, I4, ps, eo, e4⟩ => ?_
  subst eo e4
  cases pl
  cases pu
  have I5 : Inv X pins σ H4 { s4 with heap := s4.heap.push { cls := .type "slice", data := .fields #[.none, .none, vs] } } := I4.kept (t' := s4.toks) fun b ob q => Heap.get?_push_of_some _ q
  show wpAny (model X.prog X.w) X.A (PyProof.Rows.subscriptTail e (.Slice none none (some (.UnaryOp .USub (.Constant (.int 1) k p1) p2)) p3) (.ref a) (.ref s4.heap.objs.size)) (EP X pins σ Q) X.xe { s4 with heap := s4.heap.push { cls := .type "slice", data := .fields #[.none, .none, vs] } }
  rcases q with ⟨hx, q⟩ | ⟨hx, q⟩
  · obtain ⟨its, r, ht, hz⟩ := I5.list hx
    have hlen := r.length
    refine PyProof.Rows.tail_any (ops := [.ref a, .ref s4.heap.objs.size]) ht.isList.typeIs (PySem.slot_list_getitem.lookup) ?_ (by with_unfolding_all rfl)
    refine wpAny_getItem_list_slice ht.isList (Heap.IsSliceOf.new _ .none .none vs) .none .none ps (by decide) ?_ (by rw [List.size_toArray]; omega)
    rw [PySem.W.krv_pick]
    refine ⟨.ref _, _, I5.laid (t' := s4.toks) (o := .lst xs.reverse) (fun b ob q => Heap.get?_push_of_some _ q) (Nat.le_refl _) ?_, rfl, q _ (I5.hok.fresh (Nat.le_refl _))⟩
    exact ⟨by rw [List.length_reverse]; exact hz, _, 0, r.reverse, Heap.get?_push_size _ rfl⟩
  · obtain ⟨its, r, ht, hz⟩ := I5.tuple hx
    have hlen := r.length
    refine PyProof.Rows.tail_any (ops := [.ref a, .ref s4.heap.objs.size]) ht.typeIs (PyProof.Rows.slot_tuple_getitem.lookup) ?_ (by with_unfolding_all rfl)
    refine getItem_tuple_back ht (Heap.IsSliceOf.new _ .none .none vs) ps ?_ (by rw [List.size_toArray]; omega)
    refine ⟨.ref _, _, I5.laid (t' := s4.toks) (o := .tup xs.reverse) (fun b ob q => Heap.get?_push_of_some _ q) (Nat.le_refl _) ?_, rfl, q _ (I5.hok.fresh (Nat.le_refl _))⟩
    exact ⟨by rw [List.length_reverse]; exact hz, _, r.reverse, PyProof.Rows.IsTup.new _ _⟩
def mRevA (m : Rho → R D) : Rho → R D := fun ρ => (m ρ).bind fun d => match d with
  | .lst xs => .ok (.lst xs.reverse)
  | .tup xs => .ok (.tup xs.reverse)
  | _ => .stuck
theorem ce_rev {X : Cx} {B : Bx} {e : Expr} {k : Nat} {p1 p2 p3 pos : Pos} {m : Rho → R D} (he : PE X e (yB X.kx B m)) : PE X (.Subscript e (.Slice none none (some (.UnaryOp .USub (.Constant (.int 1) k p1) p2)) p3) pos) (yE X.kx B (mRevA m)) :=
  pe_imp (pe_back he) fun σ H Q ⟨F, ρ, ok, q⟩ => seqB ok q fun d F' H' v e1 r q1 => by
    have k := ok.step e1
    split at q1
    · obtain ⟨p, ws, rfl, h1, l1⟩ := r.lst k.fh
      exact ⟨p, ws, rfl, .inl ⟨.inl (.inl h1), fin_lst k.fh k.dk (RpL.reverse l1) (PE1.step q1 e1)⟩⟩
    · obtain ⟨p, ws, rfl, h1, l1⟩ := r.tup k.fh
      exact ⟨p, ws, rfl, .inr ⟨.inl (.inl h1), fin_tup k.fh k.dk (RpL.reverse l1) (PE1.step q1 e1)⟩⟩
    · exact q1.elim
end Y
/-! # Y15 -/
set_option Elab.async false
set_option linter.all false
set_option maxRecDepth 100000
set_option maxHeartbeats 4000000
namespace Y
open PySem PySem.Spec L2

/-! ### what may be compared: rows of ints, rows of rows of ints -/
theorem lay_ints : ∀ ns : List Int, PyData.canLayAll0 (ns.map PyData.int) = true ∧ PyData.depthAll (ns.map PyData.int) = 0
  | [] => by simp [PyData.canLayAll0, PyData.depthAll]
  | n :: ns => by
    obtain ⟨h1, h2⟩ := lay_ints ns
    simp [PyData.canLayAll0, PyData.depthAll, PyData.canLay0, PyData.depth, h1, h2]
theorem shaped_int (i : Int) : SeqAt.shaped (.int i) = true := by simp [SeqAt.shaped, PyData.canLay0, PyData.depth]
theorem shaped_ints (ns : List Int) : SeqAt.shaped (.list (ns.map PyData.int)) = true := by
  obtain ⟨h1, h2⟩ := lay_ints ns
  simp [SeqAt.shaped, PyData.canLay0, PyData.depth, h1, h2]
theorem shaped_tints (ns : List Int) : SeqAt.shaped (.tuple (ns.map PyData.int)) = true := by
  obtain ⟨h1, h2⟩ := lay_ints ns
  simp [SeqAt.shaped, PyData.canLay0, PyData.depth, h1, h2]
theorem lay_rows : ∀ xs : List (List Int), PyData.canLayAll0 (xs.map fun ns => .tuple (ns.map PyData.int)) = true ∧ PyData.depthAll (xs.map fun ns => .tuple (ns.map PyData.int)) ≤ 1
  | [] => by simp [PyData.canLayAll0, PyData.depthAll]
  | n :: ns => by
    obtain ⟨h1, h2⟩ := lay_rows ns
    obtain ⟨h3, h4⟩ := lay_ints n
    simp [PyData.canLayAll0, PyData.depthAll, PyData.canLay0, PyData.depth, h1, h2, h3, h4]
theorem shaped_rows (xs : List (List Int)) : SeqAt.shaped (.tuple (xs.map fun ns => .tuple (ns.map PyData.int))) = true := by
  obtain ⟨h1, h2⟩ := lay_rows xs
  simp [SeqAt.shaped, PyData.canLay0, PyData.depth, h1]
  omega
theorem shaped_lrows (xs : List (List Int)) : SeqAt.shaped (.list (xs.map fun ns => .tuple (ns.map PyData.int))) = true := by
  obtain ⟨h1, h2⟩ := lay_rows xs
  simp [SeqAt.shaped, PyData.canLay0, PyData.depth, h1]
  omega
theorem eqvAll_ints : ∀ (a b : List Int), PyData.eqvAll (a.map PyData.int) (b.map PyData.int) = decide (a = b)
  | [], [] => by simp [PyData.eqvAll]
  | [], _ :: _ => by simp [PyData.eqvAll]
  | _ :: _, [] => by simp [PyData.eqvAll]
  | x :: a, y :: b => by
    simp only [List.map_cons, PyData.eqvAll, PyData.eqv, eqvAll_ints a b]
    by_cases h : x = y
    · subst h; simp
    · simp [h]
theorem eqvAll_rows : ∀ (a b : List (List Int)), PyData.eqvAll (a.map fun ns => .tuple (ns.map PyData.int)) (b.map fun ns => .tuple (ns.map PyData.int)) = decide (a = b)
  | [], [] => by simp [PyData.eqvAll]
  | [], _ :: _ => by simp [PyData.eqvAll]
  | _ :: _, [] => by simp [PyData.eqvAll]
  | x :: a, y :: b => by
    simp only [List.map_cons, PyData.eqvAll, PyData.eqv, eqvAll_rows a b, eqvAll_ints]
    by_cases h : x = y
    · subst h; simp
    · simp [h]
theorem dp_ints {K : PySem.W.Frag} {H : Hp} : ∀ ns : List Int, DpAll K H (ns.map V.int) (ns.map PyData.int)
  | [] => .nil
  | n :: ns => .cons (.int n) (dp_ints ns)

/-! ### the deal: one number drawn -/
section
variable (K : PySem.W.Frag)
def tD0 : TE := tOp (rIxL K) (tVar 0) (tC (.int 0))
def tD1 : TE := tOp (rIxL K) (tVar 0) (tC (.int 1))
def tDL : TE := tOp (rIxL K) (tD0 K) (tUn (rU fun i => .int (-i)) (tC (.int 1)))
def tDNe : TT := tTest (tOp (rNeD K) (tD0 K) (tLst tNil))
def opMod : R2 := rI (fun _ j => 0 < j) fun i j => .int (i % j)
def opDiv : R2 := rI CDivW fun i j => .int (i / j)
def opAdd : R2 := rI0 fun i j => .int (i + j)
def opMul : R2 := rI CMul fun i j => .int (i * j)
def rInt1 : List V → Hp → VK → Prop := fun xs H Q => (∃ i, xs = [.int i] ∧ Q (.int i) H) ∨ ∃ k, xs = [.bl k] ∧ Q (.int (if k then 1 else 0)) H
def tIntOf (t : TE) : TE := tCB rInt1 (tCons t tNil)
def tPop : TE := tBM0 K "list" rPop (tD0 K)
/-- _law_any's body -/
def tAny : TS :=
  tSeq (tWhile (tAnd (tDNe K) (tTest (tOp (rEqD K) (tDL K) (tC (.int 0))))) (tDrop (tPop K)))
  (tSeq (tIfS (tDNe K)
    (tSeq (tAsg (tIntOf (tPop K)) (gName 2))
      (tSeq (tDrop (tBM K "list" rAppend (tD0 K) (tCons (tOp opDiv (tVar 2) (tVar 1)) tNil)))
        (tRet (tOp opMod (tVar 2) (tVar 1)))))
    tNext)
  (tSeq (tAsg (tOp opMod (tIntOf (tOp opAdd (tOp opMul (tD1 K) (tC (.int 40693))) (tC (.int 71)))) (tC (.int 2147483647))) (gSub (tVar 0) (tC (.int 1)) rSetL))
    (tRet (tOp opMod (tIntOf (tOp opDiv (tD1 K) (tC (.int 64)))) (tVar 1)))))
end
/-- the deal's two lists as they stand -/
structure DS (H0 H : Hp) (p c : Addr) (cs : List Int) (m : Int) : Prop where
  ne : p ≠ c
  hp : H p = some (.lst [.ref c, .int m])
  hc : H c = some (.lst (cs.map V.int))
  len : cs.length ≤ 63
  pos : ∀ x ∈ cs, 0 ≤ x
  m0 : 0 ≤ m
  m1 : m < 2147483647
  kp : ∀ x o, H0 x = some o → x ≠ p → x ≠ c → H x = some o
section
variable {K : PySem.W.Frag} {H0 H : Hp} {p c : Addr} {cs : List Int} {m b : Int} {σ : L2.St} {Q : VK}
theorem DS.at0 (h : DS H0 H p c cs m) (e : σ[0]? = some (some (.ref p))) (q : Q (.ref c) H) : tD0 K σ H Q := ⟨.ref p, e, p, _, 0, .ref c, rfl, rfl, .inl (.inl h.hp), rfl, q⟩
theorem DS.at1 (h : DS H0 H p c cs m) (e : σ[0]? = some (some (.ref p))) (q : Q (.int m) H) : tD1 K σ H Q := ⟨.ref p, e, p, _, 1, .int m, rfl, rfl, .inl (.inl h.hp), rfl, q⟩
theorem DS.new (h : DS H0 H p c cs m) {x : Addr} {o : HO} (e : H x = none) : DS H0 (upd H x o) p c cs m := by
  have k := same_upd (o := o) e
  exact ⟨h.ne, k _ _ h.hp, k _ _ h.hc, h.len, h.pos, h.m0, h.m1, fun y u z h1 h2 => k _ _ (h.kp y u z h1 h2)⟩
theorem DS.cells (h : DS H0 H p c cs m) {ds : List Int} (hl : ds.length ≤ 63) (hp : ∀ x ∈ ds, 0 ≤ x) : DS H0 (upd H c (.lst (ds.map V.int))) p c ds m :=
  ⟨h.ne, by rw [upd_ne h.ne]; exact h.hp, upd_same, hl, hp, h.m0, h.m1, fun y u z h1 h2 => by rw [upd_ne h2]; exact h.kp y u z h1 h2⟩
theorem DS.nonempty (h : DS H0 H p c cs m) (e : σ[0]? = some (some (.ref p))) {Q : Bool → Hp → Prop} (q : ∀ H', DS H0 H' p c cs m → Q (!decide (cs = [])) H') : tDNe K σ H Q := by
  refine h.at0 e ⟨Nat.zero_le _, fun o no => ?_⟩
  have h' := h.new (o := .lst []) no
  refine ⟨.list (cs.map PyData.int), .list [], .lst (.inl (.inl h'.hc)) (dp_ints cs), .lst (.inl (.inl upd_same)) .nil, shaped_ints cs, shaped_ints [], _, ?_, q _ h'⟩
  have e2 := eqvAll_ints cs []
  rw [List.map_nil] at e2
  simp only [PyData.eqv, e2]
theorem DS.last (h : DS H0 H p c (cs ++ [b]) m) (e : σ[0]? = some (some (.ref p))) (q : Q (.int b) H) : tDL K σ H Q := by
  refine h.at0 e ⟨1, rfl, c, _, -1, .int b, rfl, rfl, .inl (.inl h.hc), ?_, q⟩
  rw [List.map_append]
  exact atI_last _ _
theorem DS.pop (h : DS H0 H p c (cs ++ [b]) m) (e : σ[0]? = some (some (.ref p))) (q : ∀ H', DS H0 H' p c cs m → Q (.int b) H') : tPop K σ H Q := by
  refine h.at0 e ⟨.inl ⟨rfl, _, .inl (.inl h.hc)⟩, c, _, .int b, rfl, rfl, h.hc, ?_, ?_⟩
  · simp
  · have e1 : ((cs ++ [b]).map V.int).dropLast = cs.map V.int := by simp
    rw [e1]
    have hl := h.len
    rw [List.length_append] at hl
    exact q _ (h.cells (by omega) fun x hx => h.pos x (List.mem_append_left _ hx))
theorem log2_200 {b : Int} (h0 : 0 < b) (h : b < 2 ^ 200) : b.natAbs.log2 < 9000 := by
  have h1 : b.natAbs < 2 ^ 200 := by omega
  have h2 : b.natAbs.log2 < 200 := (Nat.log2_lt (by omega)).mpr h1
  omega
/-- a number below the bound is drawn; the deal stands -/
theorem any_sem {D : Ends} (h : DS H0 H p c cs m) (b0 : 0 < b) (b1 : b < 2 ^ 200) {u : Option V} (es : σ = [some (.ref p), some (.int b), u])
    (q : ∀ (r : Int) H' cs' m', 0 ≤ r → r < b → DS H0 H' p c cs' m' → D.rt (.int r) H') : tAny K D σ H := by
  have e0 : σ[0]? = some (some (.ref p)) := by rw [es]; rfl
  have e1 : σ[1]? = some (some (.int b)) := by rw [es]; rfl
  -- behind the loop
  have rest : ∀ (cs : List Int) (H : Hp), DS H0 H p c cs m → (tSeq (tIfS (tDNe K)
    (tSeq (tAsg (tIntOf (tPop K)) (gName 2))
      (tSeq (tDrop (tBM K "list" rAppend (tD0 K) (tCons (tOp opDiv (tVar 2) (tVar 1)) tNil)))
        (tRet (tOp opMod (tVar 2) (tVar 1)))))
    tNext)
  (tSeq (tAsg (tOp opMod (tIntOf (tOp opAdd (tOp opMul (tD1 K) (tC (.int 40693))) (tC (.int 71)))) (tC (.int 2147483647))) (gSub (tVar 0) (tC (.int 1)) rSetL))
    (tRet (tOp opMod (tIntOf (tOp opDiv (tD1 K) (tC (.int 64)))) (tVar 1))))) D σ H := by
    intro cs H h
    refine h.nonempty e0 fun H1 h1 => ?_
    rcases List.eq_nil_or_concat cs with ez | ⟨ys, x, ez⟩
    · subst ez
      rw [decide_eq_true rfl]
      rw [if_neg (by decide)]
      refine h1.at1 e0 ⟨m, 40693, rfl, rfl, .inr (by decide), _, 71, rfl, rfl, .inl ⟨_, rfl, _, 2147483647, rfl, rfl, (by show (0 : Int) < 2147483647; decide), ?_⟩⟩
      refine ⟨.ref p, e0, p, _, 1, 1, rfl, rfl, h1.hp, rfl, ?_⟩
      have hm0 : 0 ≤ (m * 40693 + 71) % 2147483647 := Int.emod_nonneg _ (by decide)
      have hm1 : (m * 40693 + 71) % 2147483647 < 2147483647 := Int.emod_lt_of_pos _ (by decide)
      have h2 : DS H0 (upd H1 p (.lst ([.ref c, .int m].set 1 (.int ((m * 40693 + 71) % 2147483647))))) p c [] ((m * 40693 + 71) % 2147483647) :=
        ⟨h1.ne, upd_same, by rw [upd_ne (Ne.symm h1.ne)]; exact h1.hc, h1.len, h1.pos, hm0, hm1, fun y u z k1 k2 => by rw [upd_ne k1]; exact h1.kp y u z k1 k2⟩
      refine h2.at1 e0 ⟨_, 64, rfl, rfl, ⟨by decide, by decide⟩, .inl ⟨_, rfl, .int b, e1, _, b, rfl, rfl, b0, ?_⟩⟩
      exact q _ _ _ _ (Int.emod_nonneg _ (by omega)) (Int.emod_lt_of_pos _ b0) h2
    · rw [List.concat_eq_append] at ez
      subst ez
      rw [decide_eq_false (by simp)]
      rw [if_pos (by decide)]
      refine h1.pop e0 fun H2 h2 => .inl ⟨x, rfl, ?_⟩
      have e0' : (σ.set 2 (some (.int x)))[0]? = some (some (.ref p)) := by rw [es]; rfl
      have e1' : (σ.set 2 (some (.int x)))[1]? = some (some (.int b)) := by rw [es]; rfl
      have e2' : (σ.set 2 (some (.int x)))[2]? = some (some (.int x)) := by rw [es]; rfl
      have hx : 0 ≤ x := h.pos x (by simp)
      refine h2.at0 e0' ⟨.inl ⟨rfl, _, .inl (.inl h2.hc)⟩, .int x, e2', .int b, e1', x, b, rfl, rfl, ⟨b0, log2_200 b0 b1⟩, c, _, .int (x / b), rfl, rfl, h2.hc, ?_, ?_⟩
      · have := h2.len
        rw [List.length_map, szl]
        omega
      · have hd : 0 ≤ x / b := Int.ediv_nonneg hx (by omega)
        have hl := h.len
        rw [List.length_append] at hl
        have h3 : DS H0 (upd H2 c (.lst ((ys ++ [x / b]).map V.int))) p c (ys ++ [x / b]) m := h2.cells (by rw [List.length_append]; exact hl) fun y hy => by
          rcases List.mem_append.mp hy with z | z
          · exact h2.pos y z
          · rw [List.mem_singleton.mp z]; exact hd
        rw [List.map_append] at h3
        refine ⟨.int x, e2', .int b, e1', x, b, rfl, rfl, b0, ?_⟩
        exact q _ _ _ _ (Int.emod_nonneg _ (by omega)) (Int.emod_lt_of_pos _ b0) h3
  refine ⟨fun n σ1 H1 => σ1 = σ ∧ ∃ cs, cs.length = n ∧ DS H0 H1 p c cs m, ⟨cs.length, rfl, cs, rfl, h⟩, ?_⟩
  rintro n σ1 H1 ⟨rfl, cs, en, h1⟩
  refine h1.nonempty e0 fun H2 h2 => ?_
  rcases List.eq_nil_or_concat cs with ez | ⟨ys, x, ez⟩
  · subst ez
    rw [decide_eq_true rfl]
    exact rest _ _ h2
  · rw [List.concat_eq_append] at ez
    subst ez
    rw [decide_eq_false (by simp)]
    rw [if_pos (by decide)]
    refine h2.last e0 ⟨.int x, .int 0, .int x, .int 0, shaped_int x, shaped_int 0, _, rfl, ?_⟩
    by_cases hx : x = 0
    · subst hx
      refine ⟨fun σ' H' => ∃ n', n' < n ∧ σ' = σ1 ∧ ∃ cs, cs.length = n' ∧ DS H0 H' p c cs m, fun σ' H' z => z, ?_⟩
      refine h2.pop e0 fun H3 h3 => ⟨ys.length, by rw [← en, List.length_append]; exact Nat.lt_succ_self _, rfl, ys, rfl, h3⟩
    · have e3 : PyData.eqv (.int x) (.int 0) = false := by simp [PyData.eqv, hx]
      rw [e3]
      exact rest _ _ h2
end
end Y
/-! # Y16 -/
set_option Elab.async false
set_option linter.all false
set_option maxRecDepth 100000
set_option maxHeartbeats 4000000
namespace Y
open PySem PySem.Spec L2

/-! ### loops by an invariant -/
theorem fLoop_all {b : D → Rho → R Out} {P : Out → Prop} {E : D → Prop} (I : Nat → Rho → Prop) (xs : List D)
    (hs : ∀ i x ρ, xs[i]? = some x → I i ρ → (b x ρ).all (fun o => match o with
      | .next ρ' => I (i + 1) ρ'
      | .cont ρ' => I (i + 1) ρ'
      | .brk ρ' => P (.next ρ')
      | o => P o) E) (hd : ∀ ρ, I xs.length ρ → P (.next ρ)) : ∀ n ρ, n ≤ xs.length → I n ρ → (fLoop b (xs.drop n) ρ).all P E := by
  suffices h : ∀ k n ρ, n + k = xs.length → I n ρ → (fLoop b (xs.drop n) ρ).all P E from fun n ρ hn h0 => h (xs.length - n) n ρ (by omega) h0
  intro k
  induction k with
  | zero =>
    intro n ρ hn h0
    rw [List.drop_of_length_le (by omega)]
    rw [Nat.add_zero] at hn
    subst hn
    exact hd ρ h0
  | succ k ih =>
    intro n ρ hn h0
    have hlt : n < xs.length := by omega
    rw [List.drop_eq_getElem_cons hlt]
    unfold fLoop
    refine R.all_bind.mpr (R.all_imp (fun o z => ?_) (fun _ z => z) (hs n _ ρ (List.getElem?_eq_getElem hlt) h0))
    cases o with
    | next ρ' => exact ih (n + 1) ρ' (by omega) z
    | cont ρ' => exact ih (n + 1) ρ' (by omega) z
    | brk ρ' => exact z
    | ret d => exact z
    | exc x ρ' => exact z
theorem fLoop_all0 {b : D → Rho → R Out} {P : Out → Prop} {E : D → Prop} (I : Nat → Rho → Prop) {xs : List D} {ρ : Rho} (h0 : I 0 ρ)
    (hs : ∀ i x ρ, xs[i]? = some x → I i ρ → (b x ρ).all (fun o => match o with
      | .next ρ' => I (i + 1) ρ'
      | .cont ρ' => I (i + 1) ρ'
      | .brk ρ' => P (.next ρ')
      | o => P o) E) (hd : ∀ ρ, I xs.length ρ → P (.next ρ)) : (fLoop b xs ρ).all P E := fLoop_all I xs hs hd 0 ρ (Nat.zero_le _) h0
/-- each turn adds what f says -/
theorem cLoop_map {b : Bnd} {t : Rho → R Bool} {e : Rho → R D} {ρ : Rho} (g : D → D) : ∀ xs : List D, (∀ x ∈ xs, ∃ ρ1, b x ρ = some ρ1 ∧ t ρ1 = .ok true ∧ e ρ1 = .ok (g x)) → cLoop b t e ρ xs = .ok (xs.map g)
  | [], _ => rfl
  | x :: xs, h => by
    obtain ⟨ρ1, h1, h2, h3⟩ := h x List.mem_cons_self
    unfold cLoop
    rw [h1]
    show (t ρ1).nb _ = _
    rw [h2, R.nb_ok, if_pos rfl, h3, R.nb_ok, cLoop_map g xs fun y hy => h y (List.mem_cons_of_mem _ hy)]
    rfl
/-- each turn is asked, and adds what g says -/
theorem cLoop_filter {b : Bnd} {t : Rho → R Bool} {e : Rho → R D} {ρ : Rho} (p : D → Bool) (g : D → D) : ∀ xs : List D, (∀ x ∈ xs, ∃ ρ1, b x ρ = some ρ1 ∧ t ρ1 = .ok (p x) ∧ (p x = true → e ρ1 = .ok (g x))) → cLoop b t e ρ xs = .ok ((xs.filter p).map g)
  | [], _ => rfl
  | x :: xs, h => by
    obtain ⟨ρ1, h1, h2, h3⟩ := h x List.mem_cons_self
    have ih := cLoop_filter p g xs fun y hy => h y (List.mem_cons_of_mem _ hy)
    unfold cLoop
    rw [h1]
    show (t ρ1).nb _ = _
    rw [h2, R.nb_ok]
    cases hp : p x with
    | true =>
      rw [if_pos rfl, h3 hp, R.nb_ok, ih, List.filter_cons_of_pos hp]
      rfl
    | false => rw [if_neg Bool.false_ne_true, ih, List.filter_cons_of_neg (by rw [hp]; exact Bool.false_ne_true)]

/-! ### one number drawn, as a def -/
def f_any : List D → R D
  | [.deal, .int b] => .draw b fun r => .ok (.int r)
  | _ => .stuck
section
variable {P : Program} {w : World} {K : PySem.W.Frag} {mg : Str → Option Value} {base : Heap}
theorem fn_any {x qual : Str} {st : Stmt} {f : Addr} {fd : FuncData} {N ps : List Str} (F : Fun K x qual st f fd) (S : FnScope N ps (defScope st)) (hN : N.length = 3) (hp : ps.length = 2)
    (hb : ∀ (f : Addr) (cdv : Value) (A : Around) (outer : List Env) (s : Shared) (H : Hp) (E : XK), RG 0 (cxF P w K mg base N qual (defScope st) f cdv A outer s H E).A →
      PassesOwn (model P w) (cxF P w K mg base N qual (defScope st) f cdv A outer s H E).A (cxF P w K mg base N qual (defScope st) f cdv A outer s H E).env (cxF P w K mg base N qual (defScope st) f cdv A outer s H E).xe →
      PSs (cxF P w K mg base N qual (defScope st) f cdv A outer s H E) (defBody st) (tAny K)) : FnG P w K mg base 1 f fd ps (spD ⟨K, mg⟩ 2 f_any) := by
  refine fnG_of F S (fun vs H Q E h => ?_) (fun cdv A outer s H vs Q E hr h => ?_)
  · obtain ⟨dl, F, ds, hl, _, _, _, r, _⟩ := h
    rw [RpL.length r, hl, hp]
  · obtain ⟨dl, F, ds, hl, sf, dk, df, r, q⟩ := h
    refine ⟨tAny K, hb f cdv A outer s H E hr (passes_of rfl), ?_⟩
    unfold f_any at q
    split at q
    · rename_i b
      obtain ⟨⟨b0, b1⟩, q⟩ := q
      unfold RpL at r
      obtain ⟨v1, r', rfl, q1, r⟩ := r
      unfold RpL at r
      obtain ⟨v2, r'', rfl, q2, r⟩ := r
      unfold RpL at r
      unfold Rp at q1 q2
      obtain ⟨p, c, rfl, rfl⟩ := q1
      subst q2 r
      obtain ⟨ne, cs, m, h1, h2, h3, h4, h5, h6⟩ := dk p c rfl
      have ds0 : DS H H p c cs m := ⟨ne, h1, h2, h3, h4, h5, h6, fun _ _ z _ _ => z⟩
      refine any_sem (u := none) ds0 b0 b1 ?_ fun r H' cs' m' k0 k1 k => q r k0 k1 F H' (.int r) ?_ (Rp.int r)
      · unfold L2.start
        rw [hN]
        rfl
      · have off : ∀ y, Dl (some (p, c)) y ↔ y = p ∨ y = c := fun y => ⟨fun ⟨a, d, e, z⟩ => by cases e; exact z, fun z => ⟨p, c, rfl, z⟩⟩
        refine ⟨L2.Same.refl F, fun y o z => ?_, fun y o z n => ?_, fun y o z => .inl z, fun a d e => ?_⟩
        · have hn : ¬ Dl (some (p, c)) y := fun d => by rw [df y d] at z; cases z
          exact k.kp y o (sf y o z) (fun e => hn ((off y).mpr (.inl e))) fun e => hn ((off y).mpr (.inr e))
        · exact k.kp y o z (fun e => n ((off y).mpr (.inl e))) fun e => n ((off y).mpr (.inr e))
        · cases e
          exact ⟨k.ne, cs', m', k.hp, k.hc, k.len, k.pos, k.m0, k.m1⟩
    · exact q.elim
theorem cal_any {x qual : Str} {st : Stmt} {f : Addr} {fd : FuncData} {N ps : List Str} (F : Fun K x qual st f fd) (S : FnScope N ps (defScope st)) (hN : N.length = 3) (hp : ps.length = 2) (g : mg x = some (.ref f)) (b : Binds K fd ps [])
    (hb : ∀ (f : Addr) (cdv : Value) (A : Around) (outer : List Env) (s : Shared) (H : Hp) (E : XK), RG 0 (cxF P w K mg base N qual (defScope st) f cdv A outer s H E).A →
      PassesOwn (model P w) (cxF P w K mg base N qual (defScope st) f cdv A outer s H E).A (cxF P w K mg base N qual (defScope st) f cdv A outer s H E).env (cxF P w K mg base N qual (defScope st) f cdv A outer s H E).xe →
      PSs (cxF P w K mg base N qual (defScope st) f cdv A outer s H E) (defBody st) (tAny K)) : Cal P w K mg base 1 x 2 f_any := ⟨f, fd, ps, fn_any F S hN hp hb, g, F.kp, b⟩
end

/-! ### the deal made of a script -/
theorem cut63 (xs : List V) : cutV xs none (some 63) = xs.take 63 := by
  unfold cutV
  rw [show HT.sIx xs.length xs.length (some 63) = min 63 xs.length from HT.sIx_nat xs.length xs.length 63, HT.sIx_none, List.drop_zero, Nat.sub_zero]
  exact (List.take_eq_take_min ..).symm
theorem ints_rp {Z : Kx} {B : Bx} {F : Hp} : ∀ ns : List Int, RpLX Z B F (ns.map D.int) (ns.map V.int)
  | [] => RpL.nil
  | n :: ns => RpL.cons (Rp.int n) (ints_rp ns)
def wDeal (K : PySem.W.Frag) : TI := fun σ H R => tSl (rSlL K) (tVar 0) tNoPart (tPart (tC (.int 63))) σ H fun x H1 => ∃ a, x = .ref a ∧ ((∃ xs, SqL K H1 a xs) ∧ R (Itl K a) H1 ∨ (∃ xs, SqT K H1 a xs) ∧ R (Itt K a) H1)
def mIts (xs : List D) : Rho → R (List D) := fun _ => .ok xs
theorem wi_of {X : Cx} {B : Bx} {σ : L2.St} {H : Hp} {T : It → Hp → Prop} {a : Addr} {ns : List Int} (e0 : σ[0]? = some (some (.ref a))) (hS : SqL X.K H a (ns.map V.int))
    (h : yI X.kx B (mIts ((ns.take 63).map D.int)) σ H T) : wDeal X.K σ H T := by
  obtain ⟨F, ρ, ok, q⟩ := h
  refine ⟨.ref a, e0, 63, rfl, a, ns.map V.int, rfl, hS, fun p hp => ⟨p, rfl, ?_⟩⟩
  rw [cut63, ← List.map_take]
  refine .inl ⟨⟨_, .inl (.inl upd_same)⟩, ?_⟩
  exact q _ _ _ (.lay ok.fh ok.dk hp _) (wk_list upd_same (ints_rp _))
theorem frz_read {Z : Kx} {B : Bx} {σ : L2.St} {H : Hp} {Q : VK} {m : Rho → R (List D)} (h : yE Z B (mFrz m) σ H Q) : yO Z B m σ H Q := by
  obtain ⟨F, ρ, ok, q⟩ := h
  refine ⟨F, ρ, ok, R.all_imp (fun ds z => ?_) (fun _ z => z) (R.all_bind.mp q)⟩
  intro F' H' a vs e n1 n2 h1 r
  refine z (upd F' a (.lst vs)) H' (.ref a) ?_ ?_
  · refine ⟨e.ff.trans (same_upd n1), fun b o w => ?_, e.hh, fun b o w => ?_, e.dk⟩
    · by_cases q : b = a
      · subst q; rw [upd_same] at w; rw [← w]; exact h1
      · rw [upd_ne q] at w; exact e.fh b o w
    · by_cases q : b = a
      · subst q; exact .inr n2
      · rw [upd_ne q] at w; exact e.fr b o w
  · exact Rp.lst upd_same (RpL.mono (same_upd n1) _ _ r)
theorem lc_wi {X : Cx} {B : Bx} {σ : L2.St} {H : Hp} {Q : VK} {a : Addr} {ns : List Int} {ws : List Nat} {b : Bnd} {mt : Rho → R Bool} {me : Rho → R D} (e0 : σ[0]? = some (some (.ref a))) (hS : SqL X.K H a (ns.map V.int))
    (h : yO X.kx B (mComp ws (mIts ((ns.take 63).map D.int)) b mt me) σ H Q) : tLc (wDeal X.K) (yG X.kx B.blk ws b) (yT X.kx B.blk mt) (yE X.kx B.blk me) ws σ H Q := by
  have h2 := lc_read h
  unfold tLc at h2 ⊢
  exact wi_of e0 hS h2
theorem rp_ints {mg : Str → Option Value} {dl : DL} {F : Hp} : ∀ {ns : List Int} {vs : List V}, RpL mg dl F (ns.map D.int) vs → vs = ns.map V.int
  | [], vs, r => by
    unfold RpL at r
    exact r
  | n :: ns, vs, r => by
    unfold RpL at r
    obtain ⟨v, r', rfl, q, t⟩ := r
    unfold Rp at q
    rw [q, rp_ints t]
    rfl
def dCell : Rho → R D := mBi dAbs (mCons (mBi dInt (mCons (mVarB 4) mNil)) mNil)
def dm2 : Rho → R Out := mSet 3 (mBin dAdd (mBin dMul (mC (.int 52609)) (mVarB 1)) (mC (.int 977)))
def dm3b : Rho → R Out := mSet 3 (mBin dMod (mBi dInt (mCons (mBin dAdd (mBin dAdd (mBin dMul (mVarB 3) (mC (.int 40693))) (mBin dMod (mVarB 4) (mC (.int 2147483549)))) (mC (.int 59))) mNil)) (mC (.int 2147483647)))
def dm3 : Rho → R Out := mFor (mIter (mVar 2)) (bName 4) dm3b
def dm4t : Rho → R Bool := mTb (mBin dGe (mVarB 4) (mBin dPow (mC (.int 10)) (mC (.int 18))))
def dm4 : Rho → R (List D) := mComp [4] (mIter (mVar 2)) (bName 4) dm4t (mVar 4)
def tDeal (Z : Kx) (B : Bx) : TS := tSeq (tAsg (tLc (wDeal Z.K) (yG Z B.blk [4] (bName 4)) (yT Z B.blk mYes) (yE Z B.blk dCell) [4]) (gName 2))
  (tSeq (yS Z B dm2) (tSeq (yS Z B dm3) (tRet (tLst (tCons (yO Z B (mRevL (mFrz dm4))) (tCons (yE Z B (mVar 3)) tNil))))))
theorem deal_ok {Z : Kx} {W : WX} {F H : Hp} {v : V} {base : Int} (sf : Same F H) : Ok Z ⟨none, F, H, W⟩ F H [some v, some (.int base), none, none, none] [.no, .sh (.int base), .no, .no, .no] := by
  have dk : DealOk none H := fun a c e => nomatch e
  refine ⟨.refl sf dk, fun b ⟨_, _, e, _⟩ => (nomatch e), dk, rfl, fun i s e => ?_, fun i j ds es a ne e1 e2 e3 e4 => ?_⟩
  · match i, e with
    | 0, e => cases e; trivial
    | 1, e => cases e; exact ⟨_, rfl, Rp.int base⟩
    | 2, e => cases e; trivial
    | 3, e => cases e; trivial
    | 4, e => cases e; trivial
  · match i, e1 with
    | 0, e => cases e
    | 1, e => cases e
    | 2, e => cases e
    | 3, e => cases e
    | 4, e => cases e
theorem deal_sem {X : Cx} {W : WX} {F H : Hp} {a : Addr} {ns : List Int} {base : Int} {D : Ends} (sf : Same F H) (hS : SqL X.K H a (ns.map V.int))
    (q : ∀ (F' H' : Hp) (p c : Addr) (cs : List Int) (m : Int), Ext none F H F' H' → F' p = none → F' c = none → p ≠ c → H' p = some (.lst [.ref c, .int m]) → H' c = some (.lst (cs.map V.int)) → cs.length ≤ 63 → (∀ x ∈ cs, 0 ≤ x) → 0 ≤ m → m < 2147483647 → D.rt (.ref p) H')
    (hb : 0 ≤ base) (hb2 : base < 40000) : tDeal X.kx ⟨none, F, H, W⟩ D [some (.ref a), some (.int base), none, none, none] H := by
  have ok0 := deal_ok (Z := X.kx) (W := W) (v := .ref a) (base := base) sf
  obtain ⟨xs, ex⟩ : ∃ xs, xs = (ns.take 63).map Y.D.int := ⟨_, rfl⟩
  obtain ⟨cs, ec⟩ : ∃ cs : List Int, cs = (ns.take 63).map fun i => if i < 0 then -i else i := ⟨_, rfl⟩
  have lc : cs.length ≤ 63 := by rw [ec, List.length_map, List.length_take]; exact Nat.min_le_left _ _
  have pc : ∀ x ∈ cs, 0 ≤ x := fun x hx => by
    rw [ec] at hx
    obtain ⟨i, _, rfl⟩ := List.mem_map.mp hx
    show 0 ≤ if i < 0 then -i else i
    split <;> omega
  have e1 : mFrz (mComp [4] (mIts xs) (bName 4) mYes dCell) [.no, .sh (.int base), .no, .no, .no] = .ok (.lst (cs.map Y.D.int)) := by
    have h : cLoop (bName 4) mYes dCell (wipeR [.no, .sh (.int base), .no, .no, .no] [4]) xs = .ok (xs.map fun d => match d with
        | .int i => .int (if i < 0 then -i else i)
        | d => d) := cLoop_map _ xs fun x hx => by
      rw [ex] at hx
      obtain ⟨i, _, rfl⟩ := List.mem_map.mp hx
      exact ⟨_, rfl, rfl, rfl⟩
    unfold mFrz mComp mIts
    rw [R.bind_ok]
    have hl : xs.length ≤ 16777216 := by rw [ex, List.length_map, List.length_take]; omega
    unfold R.grd
    rw [if_pos hl, h, R.bind_ok, ex, ec, List.map_map, List.map_map]
    rfl
  show tLc (wDeal X.K) (yG X.kx (Bx.blk ⟨none, F, H, W⟩) [4] (bName 4)) (yT X.kx (Bx.blk ⟨none, F, H, W⟩) mYes) (yE X.kx (Bx.blk ⟨none, F, H, W⟩) dCell) [4] _ H (fun x H1 => gName 2 x [some (.ref a), some (.int base), none, none, none] H1 (tSeq (yS X.kx ⟨none, F, H, W⟩ dm2) (tSeq (yS X.kx ⟨none, F, H, W⟩ dm3) (tRet (tLst (tCons (yO X.kx ⟨none, F, H, W⟩ (mRevL (mFrz dm4))) (tCons (yE X.kx ⟨none, F, H, W⟩ (mVar 3)) tNil))))) D))
  refine lc_wi rfl hS (frz_read ⟨F, _, ok0, ?_⟩)
  rw [← ex, e1]
  intro F1 H1 v x1 r1
  have ok1 := (ok0.step x1).sh r1 2
  refine ⟨F1, _, ok1, ?_⟩
  intro F2 H2 σ2 s2 ok2
  refine ⟨F2, _, ok2, ?_⟩
  refine R.all_imp (P := fun o => ∃ m d, o = .next [.no, .sh (.int base), .sh (.lst (cs.map Y.D.int)), .sh (.int m), d] ∧ 0 ≤ m ∧ m < 2147483647) (E := fun _ => False) (fun o z => ?_) (fun _ z => z) ?_
  · obtain ⟨m, d, rfl, m0, m1⟩ := z
    intro F3 H3 σ3 s3 ok3
    refine ⟨F3, _, ok3, ?_⟩
    have e4 : mRevL (mFrz dm4) [.no, .sh (.int base), .sh (.lst (cs.map Y.D.int)), .sh (.int m), d] = .ok (((cs.filter fun i => decide ((10 : Int) ^ 18 ≤ i)).reverse).map Y.D.int) := by
      have h : cLoop (bName 4) dm4t (mVar 4) (wipeR [.no, .sh (.int base), .sh (.lst (cs.map Y.D.int)), .sh (.int m), d] [4]) (cs.map Y.D.int) = .ok ((((cs.map Y.D.int).filter fun d => match d with
          | .int i => decide ((10 : Int) ^ 18 ≤ i)
          | _ => false)).map id) := cLoop_filter _ id _ fun x hx => by
        obtain ⟨i, _, rfl⟩ := List.mem_map.mp hx
        exact ⟨_, rfl, rfl, fun _ => rfl⟩
      have hl : (cs.map Y.D.int).length ≤ 16777216 := by rw [List.length_map]; omega
      have e5 : dm4 [.no, .sh (.int base), .sh (.lst (cs.map Y.D.int)), .sh (.int m), d] = R.grd ((cs.map Y.D.int).length ≤ 16777216) (cLoop (bName 4) dm4t (mVar 4) (wipeR [.no, .sh (.int base), .sh (.lst (cs.map Y.D.int)), .sh (.int m), d] [4]) (cs.map Y.D.int)) := rfl
      unfold mRevL mFrz
      rw [e5]
      unfold R.grd
      rw [if_pos hl, h, R.bind_ok, R.bind_ok, List.map_id, List.filter_map, List.map_reverse]
      rfl
    rw [e4]
    intro F4 H4 c vs x4 n1 n2 h1 r4
    have ok4 := ok3.step x4
    refine ⟨F4, _, ok4, ?_⟩
    intro F5 H5 v5 x5 r5
    unfold RpX Rp at r5
    subst r5
    have ok5 := ok4.step x5
    refine ⟨by show 2 ≤ sizeLine; decide, fun p hp => ?_⟩
    have hc5 := x5.hh c _ h1 fun ⟨_, _, e, _⟩ => nomatch e
    have ne : p ≠ c := fun e => by rw [e, hc5] at hp; cases hp
    refine q F5 _ p c (cs.filter fun i => decide ((10 : Int) ^ 18 ≤ i)).reverse m (ok5.ext.trans (.own ok5.fh ok5.dk hp _)) (same_none ok5.fh hp) (x5.none_of n1 h1) ne upd_same ?_ ?_ ?_ m0 m1
    · rw [upd_ne (Ne.symm ne), hc5, rp_ints r4]
    · rw [List.length_reverse]
      exact Nat.le_trans (List.length_filter_le ..) lc
    · intro x hx
      exact pc x (List.mem_filter.mp (List.mem_reverse.mp hx)).1
  · refine fLoop_all0 (fun i ρ => ∃ m d, ρ = [.no, .sh (.int base), .sh (.lst (cs.map Y.D.int)), .sh (.int m), d] ∧ 0 ≤ m ∧ m < 2147483647) ?_ ?_ ?_
    · exact ⟨_, _, rfl, by omega, by omega⟩
    · rintro i x ρ hx ⟨m, d, rfl, m0, m1⟩
      rw [List.getElem?_map] at hx
      cases hc : cs[i]? with
      | none => rw [hc] at hx; cases hx
      | some c =>
        rw [hc] at hx
        cases hx
        have hm : small64 m ∨ small64 40693 := .inr (by decide)
        have e5 : turnM (bName 4) dm3b (.int c) [.no, .sh (.int base), .sh (.lst (cs.map Y.D.int)), .sh (.int m), d] = R.ok (.next [.no, .sh (.int base), .sh (.lst (cs.map Y.D.int)), .sh (.int ((m * 40693 + c % 2147483549 + 59) % 2147483647)), .sh (.int c)]) := by
          have e6 : dMul (.int m) (.int 40693) = .ok (.int (m * 40693)) := by
            exact if_pos hm
          simp [turnM, bName, dm3b, mSet, mBin, mBi, mCons, mNil, mVarB, mC, e6, dMod, dAdd, dInt, R.grd]
        rw [e5]
        exact ⟨_, _, rfl, Int.emod_nonneg _ (by decide), Int.emod_lt_of_pos _ (by decide)⟩
    · rintro ρ ⟨m, d, rfl, m0, m1⟩
      exact ⟨m, d, rfl, m0, m1⟩
end Y
/-! # Y17 -/
set_option Elab.async false
set_option linter.all false
set_option maxRecDepth 100000
set_option maxHeartbeats 4000000
namespace Y
open PySem PySem.Spec L2

/-! ### the deal, the law -/
def spDeal (K : PySem.W.Frag) : Sp := fun vs H Q _ => ∃ (a : Addr) (base : Int) (ns : List Int) (F : Hp), vs = [.ref a, .int base] ∧ Same F H ∧ SqL K H a (ns.map V.int) ∧ 0 ≤ base ∧ base < 40000 ∧
  ∀ (F' H' : Hp) (p c : Addr) (cs : List Int) (m : Int), Ext none F H F' H' → F' p = none → F' c = none → p ≠ c → H' p = some (.lst [.ref c, .int m]) → H' c = some (.lst (cs.map V.int)) → cs.length ≤ 63 → (∀ x ∈ cs, 0 ≤ x) → 0 ≤ m → m < 2147483647 → Q (.ref p) H'
def spLaw (K : PySem.W.Frag) : Sp := fun vs H Q _ => ∃ (a : Addr) (ns : List Int), vs = [.ref a] ∧ SqL K H a (ns.map V.int) ∧ ∀ H', Q (.bl true) H'
section
variable {P : Program} {w : World} {K : PySem.W.Frag} {mg : Str → Option Value} {base : Heap}
theorem fn_deal {x qual : Str} {st : Stmt} {f : Addr} {fd : FuncData} {N ps : List Str} (F : Fun K x qual st f fd) (S : FnScope N ps (defScope st)) (hN : N.length = 5) (hp : ps.length = 2)
    (hb : ∀ (f : Addr) (cdv : Value) (A : Around) (outer : List Env) (s : Shared) (H : Hp) (E : XK) (B : Bx), RG 0 (cxF P w K mg base N qual (defScope st) f cdv A outer s H E).A →
      Takes (cxF P w K mg base N qual (defScope st) f cdv A outer s H E) B.W →
      PassesOwn (model P w) (cxF P w K mg base N qual (defScope st) f cdv A outer s H E).A (cxF P w K mg base N qual (defScope st) f cdv A outer s H E).env (cxF P w K mg base N qual (defScope st) f cdv A outer s H E).xe →
      PSs (cxF P w K mg base N qual (defScope st) f cdv A outer s H E) (defBody st) (tDeal ⟨K, mg⟩ B)) : FnG P w K mg base 1 f fd ps (spDeal K) := by
  refine fnG_of F S (fun vs H Q E h => ?_) (fun cdv A outer s H vs Q E hr h => ?_)
  · obtain ⟨a, b, ns, F, rfl, _⟩ := h
    exact hp.symm
  · obtain ⟨a, b, ns, F, rfl, sf, hS, b0, b1, q⟩ := h
    refine ⟨_, hb f cdv A outer s H E ⟨none, F, H, fun c o _ H => E c o H⟩ hr (takes_of rfl rfl rfl rfl) (passes_of rfl), ?_⟩
    have es : L2.start N [V.ref a, V.int b] = [some (.ref a), some (.int b), none, none, none] := by
      unfold L2.start
      rw [hN]
      rfl
    rw [es]
    exact deal_sem (X := cxF P w K mg base N qual (defScope st) f cdv A outer s H E) sf hS q b0 b1
theorem law_y {x qual : Str} {st s1 : Stmt} {rest : List Stmt} {f : Addr} {fd : FuncData} {N ps : List Str} {k : Nat} {bs : Int} {mb : Rho → R Out} (F : Fun K x qual st f fd) (S : FnScope N ps (defScope st)) (hp : ps.length = 1) (hN : 2 ≤ N.length) (hb0 : 0 ≤ bs) (hb1 : bs < 40000) (eb : defBody st = s1 :: rest)
    (h1 : ∀ (f : Addr) (cdv : Value) (A : Around) (outer : List Env) (s : Shared) (H : Hp) (E : XK), RG k (cxF P w K mg base N qual (defScope st) f cdv A outer s H E).A → Takes (cxF P w K mg base N qual (defScope st) f cdv A outer s H E) (fun c o _ H => E c o H) →
      PS (cxF P w K mg base N qual (defScope st) f cdv A outer s H E) s1 (tAsg (tCallS (spDeal K) (WE fun c o _ H => E c o H) (tCons (tVar 0) (tCons (tC (.int bs)) tNil))) (gName 1)))
    (h2 : ∀ (f : Addr) (cdv : Value) (A : Around) (outer : List Env) (s : Shared) (H : Hp) (E : XK) (B : Bx), RG k (cxF P w K mg base N qual (defScope st) f cdv A outer s H E).A → Takes (cxF P w K mg base N qual (defScope st) f cdv A outer s H E) B.W →
      PassesOwn (model P w) (cxF P w K mg base N qual (defScope st) f cdv A outer s H E).A (cxF P w K mg base N qual (defScope st) f cdv A outer s H E).env (cxF P w K mg base N qual (defScope st) f cdv A outer s H E).xe →
      PSs (cxF P w K mg base N qual (defScope st) f cdv A outer s H E) rest (yS ⟨K, mg⟩ B mb))
    (math : (mb (.no :: .sh .deal :: List.replicate (N.length - 2) .no)).all (fun o => o = .ret (.bl true)) (fun _ => False)) : FnG P w K mg base (k + 1) f fd ps (spLaw K) := by
  refine fnG_of F S (fun vs H Q E h => ?_) (fun cdv A outer s H vs Q E hr h => ?_)
  · obtain ⟨a, ns, rfl, _⟩ := h
    exact hp.symm
  · obtain ⟨a, ns, rfl, hS, q⟩ := h
    have hr' : RG k (cxF P w K mg base N qual (defScope st) f cdv A outer s H E).A := hr
    have pt : PSs (cxF P w K mg base N qual (defScope st) f cdv A outer s H E) rest (fun D σ H1 => ∃ dl F0 H0, yS ⟨K, mg⟩ ⟨dl, F0, H0, fun c o _ H => E c o H⟩ mb D σ H1) :=
      ⟨fun pins s' σ H1 D I ⟨dl, F0, H0, q⟩ => (h2 f cdv A outer s H E ⟨dl, F0, H0, fun c o _ H => E c o H⟩ hr' (takes_of rfl rfl rfl rfl) (passes_of rfl)).run pins s' σ H1 D I q⟩
    refine ⟨_, by rw [eb]; exact pss_cons (h1 f cdv A outer s H E hr' (takes_of rfl rfl rfl rfl)) pt, ?_⟩
    refine ⟨.ref a, by unfold L2.start; rfl, a, bs, ns, fun _ => none, rfl, (fun b o e => nomatch e), hS, hb0, hb1, fun F' H' p c cs m e n1 n2 ne g1 g2 g3 g4 g5 g6 => ?_⟩
    have dk : DealOk (some (p, c)) H' := fun a d e => by
      cases e
      exact ⟨ne, cs, m, g1, g2, g3, g4, g5, g6⟩
    have df : ∀ b, Dl (some (p, c)) b → F' b = none := fun b ⟨a', d, e, z⟩ => by
      cases e
      rcases z with rfl | rfl
      · exact n1
      · exact n2
    obtain ⟨r, er⟩ : ∃ r, N.length = r + 2 := ⟨N.length - 2, by omega⟩
    have es : (L2.start N [V.ref a]).set 1 (some (.ref p)) = some (.ref a) :: some (.ref p) :: List.replicate r none := by
      unfold L2.start
      rw [show N.length - [V.ref a].length = r + 1 by rw [er]; rfl]
      rfl
    refine ⟨some (p, c), F', H', F', _, ?_, R.all_imp (fun o z => ?_) (fun _ z => z) math⟩
    · rw [es, er, Nat.add_sub_cancel]
      refine ⟨.refl e.fh dk, df, dk, by simp, fun i s e => ?_, fun i j ds es a ne e1 e2 e3 e4 => ?_⟩
      · match i, e with
        | 0, e => cases e; trivial
        | 1, e =>
          cases e
          exact ⟨.ref p, rfl, p, c, rfl, rfl⟩
        | i + 2, e =>
          have e' : (List.replicate r Sl.no)[i]? = some s := e
          rw [List.getElem?_replicate] at e'
          split at e'
          · cases e'; trivial
          · cases e'
      · match i, e1 with
        | 0, e => cases e
        | 1, e => cases e
        | i + 2, e =>
          have e' : (List.replicate r Sl.no)[i]? = some (.ow ds) := e
          rw [List.getElem?_replicate] at e'
          split at e' <;> cases e'
    · subst z
      intro F2 H2 v x r
      unfold RpX Rp at r
      subst r
      exact q H2
end
end Y
/-! # Y18 -/
set_option Elab.async false
set_option linter.all false
set_option maxRecDepth 100000
set_option maxHeartbeats 4000000
namespace Y
open PySem PySem.Spec L2

/-! ### a def of the text, as the module's head has left it -/
def Has (K : PySem.W.Frag) (x : Str) (st : Stmt) : Prop := ∃ (f : Addr) (fd : FuncData), PySem.W.nsIn K mainGlobals x = some (some (.ref f)) ∧ Fun K x x st f fd
theorem has_mk {K : PySem.W.Frag} {x : Str} {st : Stmt} {f : Addr} {oc : Value} {od an : Option Addr} {osl : Array (Option Value)} {kV doc pm cdv ct : Value} (a : PySem.W.nsIn K mainGlobals x = some (some (.ref f)))
    (l : K.lookup f = some ⟨oc, od, .func (PySem.W.fnOf x x (defArgs st) (defBody st) (defScope st) .none kV doc pm an cdv ct), osl⟩) (c : PySem.W.codeIn K cdv x = true) (k : PySem.W.keepIn K (.ref f) = true) : Has K x st := ⟨f, _, a, fun_mk l c k⟩
theorem _root_.L2.Fun.bind1 {K : PySem.W.Frag} {x qual p : Str} {st : Stmt} {f : Addr} {fd : FuncData} (F : Fun K x qual st f fd)
    (h : ∀ (kV doc pm : Value) (an : Option Addr) (cdv ct : Value) (u : Value), bindArgs (PySem.W.fnOf x qual (defArgs st) (defBody st) (defScope st) .none kV doc pm an cdv ct) ⟨[u], []⟩ = pure [(p, u)]) (s : Shared) (u : Value) : BindsTo s fd ⟨[u], []⟩ [(p, u)] := by
  obtain ⟨oc, od, kV, doc, pm, an, cdv, ct, osl, rfl, _, _⟩ := F.ex
  exact .of_eq (h kV doc pm an cdv ct u)
end Y
/-! # GA -/
set_option Elab.async false
set_option linter.all false
set_option maxRecDepth 100000
set_option maxHeartbeats 4000000
namespace Y
open PySem PySem.Spec L2
namespace K02
def top (i : Nat) : Stmt := PySem.Challenge.pw_eitheronce_k02_prime_polynomials.main.body.getD i (.Pass ⟨0, 0, 0, 0⟩)
/-- built-in names that the text leaves alone -/
structure Bi (mg : Str → Option Value) : Prop where
  b_abs : mg "abs" = none
  b_enumerate : mg "enumerate" = none
  b_int : mg "int" = none
  b_isinstance : mg "isinstance" = none
  b_len : mg "len" = none
  b_list : mg "list" = none
  b_max : mg "max" = none
  b_min : mg "min" = none
  b_range : mg "range" = none
  b_repr : mg "repr" = none
  b_sorted : mg "sorted" = none
  b_sum : mg "sum" = none
  b_tuple : mg "tuple" = none
abbrev f_l_any : List D → R D := f_any
/-- the law's body behind its first statement -/
def TailOk (P : Program) (w : World) (K : PySem.W.Frag) (mg : Str → Option Value) (base : Heap) (N : List Str) (qual : Str) (st : Stmt) (k : Nat) (mb : Rho → R Out) : Prop :=
  ∀ (f : Addr) (cdv : Value) (A : Around) (outer : List Env) (s : Shared) (H : Hp) (E : XK) (B : Bx), RG k (cxF P w K mg base N qual (defScope st) f cdv A outer s H E).A → Takes (cxF P w K mg base N qual (defScope st) f cdv A outer s H E) B.W →
    PassesOwn (model P w) (cxF P w K mg base N qual (defScope st) f cdv A outer s H E).A (cxF P w K mg base N qual (defScope st) f cdv A outer s H E).env (cxF P w K mg base N qual (defScope st) f cdv A outer s H E).xe →
    PSs (cxF P w K mg base N qual (defScope st) f cdv A outer s H E) (defBody st).tail (yS ⟨K, mg⟩ B mb)
/-! ## the deal: its draw, its making -/
abbrev s_l_any : Stmt := top 10
abbrev n_l_any : List Str := ["_law_deal_here", "_law_bound", "_law_rest_here"]
theorem sc_l_any : FnScope n_l_any ["_law_deal_here", "_law_bound"] (defScope s_l_any) := ⟨rfl, rfl, rfl, by decide +kernel, rfl, by decide +kernel, by decide +kernel⟩
abbrev s_l_deal : Stmt := top 9
abbrev n_l_deal : List Str := ["_law_script", "_law_base", "_law_cells", "_law_mix", "_law_cell"]
theorem sc_l_deal : FnScope n_l_deal ["_law_script", "_law_base"] (defScope s_l_deal) := ⟨rfl, rfl, rfl, by decide +kernel, rfl, by decide +kernel, by decide +kernel⟩
section
variable {P : Program} {w : World} {K : PySem.W.Frag} {mg : Str → Option Value} {base : Heap}
set_option maxRecDepth 100000 in
set_option maxHeartbeats 8000000 in
theorem a_any (T : Bi mg) (f : Addr) (cdv : Value) (A : Around) (outer : List Env) (s : Shared) (H : Hp) (E : XK) (hr : RG 0 (cxF P w K mg base n_l_any "_law_any" (defScope s_l_any) f cdv A outer s H E).A)
    (pf : PassesOwn (model P w) (cxF P w K mg base n_l_any "_law_any" (defScope s_l_any) f cdv A outer s H E).A (cxF P w K mg base n_l_any "_law_any" (defScope s_l_any) f cdv A outer s H E).env (cxF P w K mg base n_l_any "_law_any" (defScope s_l_any) f cdv A outer s H E).xe) :
    PSs (cxF P w K mg base n_l_any "_law_any" (defScope s_l_any) f cdv A outer s H E) (defBody s_l_any) (tAny K) := by
  have nd := sc_l_any.nd
  have hu := hr.room.units
  exact pss_cons (ps_while pf (PW.pt (pw_and (pt_cmpR (op_neD hu) (pe_ix ix_list (pv 0) pe_int (fun _ _ => rfl)) (pe_lst pa_nil) (nomark _)) (pw_and1 (pt_cmpR (op_eqD hu) (pe_ix ix_list (pe_ix ix_list (pv 0) pe_int (fun _ _ => rfl)) (pe_un un_neg pe_int) (fun _ _ => rfl)) pe_int (nomark _)))))
      (pss_one (ps_expr (pe_bm0 PySem.F.plainAttrs_list PySem.F.slot_list_pop PySem.F.type_list_pop mt_pop (pe_ix ix_list (pv 0) pe_int (fun _ _ => rfl))))))
    (pss_cons (ps_if (pt_cmpR (op_neD hu) (pe_ix ix_list (pv 0) pe_int (fun _ _ => rfl)) (pe_lst pa_nil) (nomark _))
      (pss_cons (ps_set (i := 2) nd rfl (.inl rfl) (pe_callTy call_int1 (by rfl) T.b_int (by decide +kernel) (pa_cons (pe_bm0 PySem.F.plainAttrs_list PySem.F.slot_list_pop PySem.F.type_list_pop mt_pop (pe_ix ix_list (pv 0) pe_int (fun _ _ => rfl))) pa_nil)))
        (pss_cons (ps_expr (pe_bm PySem.F.plainAttrs_list PySem.F.slot_list_append PySem.F.type_list_append mt_append (pe_ix ix_list (pv 0) pe_int (fun _ _ => rfl)) (pa_cons (pe_op op_fdivW (pv 2) (pv 1)) pa_nil)))
          (pss_one (ps_ret (pe_op op_mod (pv 2) (pv 1)))))) pss_nil)
    (pss_cons (ps_asg (pe_op op_mod (pe_callTy call_int1 (by rfl) T.b_int (by decide +kernel) (pa_cons (pe_op op_add (pe_op op_mul (pe_ix ix_list (pv 0) pe_int (fun _ _ => rfl)) pe_int) pe_int) pa_nil)) pe_int) (pg_sub (pv 0) pe_int set_list))
      (pss_one (ps_ret (pe_op op_mod (pe_callTy call_int1 (by rfl) T.b_int (by decide +kernel) (pa_cons (pe_op op_fdivW (pe_ix ix_list (pv 0) pe_int (fun _ _ => rfl)) pe_int) pa_nil)) (pv 1))))))
set_option maxRecDepth 100000 in
set_option maxHeartbeats 8000000 in
theorem a_deal (T : Bi mg) (f : Addr) (cdv : Value) (A : Around) (outer : List Env) (s : Shared) (H : Hp) (E : XK) (B : Bx) (hr : RG 0 (cxF P w K mg base n_l_deal "_law_deal" (defScope s_l_deal) f cdv A outer s H E).A)
    (tk : Takes (cxF P w K mg base n_l_deal "_law_deal" (defScope s_l_deal) f cdv A outer s H E) B.W)
    (pf : PassesOwn (model P w) (cxF P w K mg base n_l_deal "_law_deal" (defScope s_l_deal) f cdv A outer s H E).A (cxF P w K mg base n_l_deal "_law_deal" (defScope s_l_deal) f cdv A outer s H E).env (cxF P w K mg base n_l_deal "_law_deal" (defScope s_l_deal) f cdv A outer s H E).xe) :
    PSs (cxF P w K mg base n_l_deal "_law_deal" (defScope s_l_deal) f cdv A outer s H E) (defBody s_l_deal) (tDeal ⟨K, mg⟩ B) := by
  have nd := sc_l_deal.nd
  exact pss_cons (ps_setLc (i := 2) (own := ([("_law_cell", 4)] : List (Str × Nat))) rfl nd rfl rfl (sw_true rfl rfl rfl (by decide +kernel)) (pi_both (pe_slice sl_list (pv 0) po_none (po_some pe_int))) (blkOk_by (N := n_l_deal) (sc := defScope s_l_deal) (by decide +kernel))
      (fun _ _ _ _ _ => (cg_name 4 nd)) (fun _ _ _ _ _ => ct_yes) (fun _ _ _ _ _ => (ce_abs (cab_cons (cb (ce_intc (cab_cons (cb_v 4) cab_nil) T.b_int)) cab_nil) T.b_abs)))
    (pss_cons (cs_set 3 nd (ce_add (cb (ce_mul (cb ce_int) (cb_v 1))) (cb ce_int)))
    (pss_cons (cs_for (ws := [4]) pf rfl (ci_seq (ce_v 2)) (cg_name 4 nd) (css_one (cs_set 3 nd (ce_mod (cb (ce_intc (cab_cons (cb (ce_add (cb (ce_add (cb (ce_mul (cb_v 3) (cb ce_int))) (cb (ce_mod (cb_v 4) (cb ce_int))))) (cb ce_int))) cab_nil) T.b_int)) (cb ce_int)))))
    (pss_one (ps_ret (pe_lst (pa_cons (co_rev (cb (ce_frz (co_lc rfl nd ([("_law_cell", 4)] : List (Str × Nat)) (ci_seq (ce_v 2)) (blkOk_by (N := n_l_deal) (sc := defScope s_l_deal) (by decide +kernel)) (fun _ _ _ _ _ => (cg_name 4 nd)) (fun _ _ _ _ _ => (pts_one (ct_ge (cb_v 4) (cb (ce_pow (cb ce_int) (cb ce_int)))))) (fun _ _ _ _ _ => (ce_v 4)))))) (pa_cons (ce_v 3) pa_nil)))))))
end
/-! ## small_power: 0 base, 1 times, 2 found, 3 _ -/
abbrev s_small_power : Stmt := top 1
abbrev n_small_power : List Str := ["base", "times", "found", "_"]
theorem sc_small_power : FnScope n_small_power ["base", "times"] (defScope s_small_power) := ⟨rfl, rfl, rfl, by decide +kernel, rfl, by decide +kernel, by decide +kernel⟩
def f_small_power_b : Rho → R Out := (mSeq (mSet 2 (mC (.int 1))) (mSeq (mFor (mArgs dRange1 (mCons (mVar 1) mNil)) (bName 3) (mSeq (mAug 2 dIMul (mVarB 0)) (mNo 3 mSkip))) (mRet (mVar 2))))
def f_small_power : List D → R D := mFun 4 2 f_small_power_b
set_option maxRecDepth 100000 in
set_option maxHeartbeats 8000000 in
theorem b_small_power {P : Program} {w : World} {K : PySem.W.Frag} {mg : Str → Option Value} {base : Heap} (T : Bi mg) : BodyOk P w K mg base n_small_power "small_power" s_small_power 0 f_small_power_b := fun f cdv A outer s H E B hr tk pf => by
  have nd := sc_small_power.nd
  exact (css_cons (cs_set 2 nd ce_int) (css_cons (cs_for (ws := [3]) pf rfl (ci_range1 T.b_range (ca_cons (ce_v 1) ca_nil)) (cg_name 3 nd) (css_cons (cs_imul 2 nd (cb_v 0)) (css_no 3 css_nil))) (css_one (cs_ret (ce_v 2)))))

/-! ## trimmed_off: 0 values, 1 end -/
abbrev s_trimmed_off : Stmt := top 3
abbrev n_trimmed_off : List Str := ["values", "end"]
theorem sc_trimmed_off : FnScope n_trimmed_off ["values"] (defScope s_trimmed_off) := ⟨rfl, rfl, rfl, by decide +kernel, rfl, by decide +kernel, by decide +kernel⟩
noncomputable def f_trimmed_off_b : Rho → R Out := (mSeq (mSet 1 (mBi dLen (mCons (mVarB 0) mNil))) (mSeq (mWhile (mAndT (mTb (mBin dGt (mVarB 1) (mC (.int 0)))) (mTb (mBin dEq (mBin dIx (mVarB 0) (mBin dSub (mVarB 1) (mC (.int 1)))) (mC (.int 0))))) (mAug 1 dSub (mC (.int 1)))) (mRet (mTupC (mCut (mVarB 0) mNone (mPart (mVarB 1)))))))
noncomputable def f_trimmed_off : List D → R D := mFun 2 1 f_trimmed_off_b
set_option maxRecDepth 100000 in
set_option maxHeartbeats 8000000 in
theorem b_trimmed_off {P : Program} {w : World} {K : PySem.W.Frag} {mg : Str → Option Value} {base : Heap} (T : Bi mg) : BodyOk P w K mg base n_trimmed_off "trimmed_off" s_trimmed_off 0 f_trimmed_off_b := fun f cdv A outer s H E B hr tk pf => by
  have nd := sc_trimmed_off.nd
  exact (css_cons (cs_set 1 nd (ce_len (cab_cons (cb_v 0) cab_nil) T.b_len)) (css_cons (cs_while pf (PW.pt (cw_and (ct_gt (cb_v 1) (cb ce_int)) (cw_and1 (ct_eq hr.room.units (cb (ce_ix (cb_v 0) (cb (ce_sub (cb_v 1) (cb ce_int))))) (cb ce_int))))) (css_one (cs_isub 1 nd (cb ce_int)))) (css_one (cs_ret (ce_tuple (cb (ce_cut (cb_v 0) cp_none (cp_some (cb_v 1)))) T.b_tuple)))))

/-! ## polynomial_rest: 0 p, 1 one, 2 other, 3 quotient, 4 at, 5 rest, 6 many, 7 top, 8 further, 9 right -/
abbrev s_polynomial_rest : Stmt := top 4
abbrev n_polynomial_rest : List Str := ["p", "one", "other", "quotient", "at", "rest", "many", "top", "further", "right"]
theorem sc_polynomial_rest : FnScope n_polynomial_rest ["p", "one", "other"] (defScope s_polynomial_rest) := ⟨rfl, rfl, rfl, by decide +kernel, rfl, by decide +kernel, by decide +kernel⟩
noncomputable def f_polynomial_rest_b : Rho → R Out := (mSeq (mPar2 5 6 (mOw (mSeqL (mCons (mVarB 1) mNil))) (mSh (mBin dSub (mBi dLen (mCons (mVarB 2) mNil)) (mC (.int 1))))) (mSeq (mOwn 3 (mMulL (mFrz (mLst (mCons (mC (.int 0)) mNil))) (mBi dMax2 (mCons (mBin dSub (mBi dLen (mCons (mVarB 1) mNil)) (mVarB 6)) (mCons (mC (.int 0)) mNil))))) (mSeq (mFor (mArgs dRange3 (mCons (mBin dSub (mBi dLen (mCons (mVarB 3) mNil)) (mC (.int 1))) (mCons (mUn dNeg (mC (.int 1))) (mCons (mUn dNeg (mC (.int 1))) mNil)))) (bName 4) (mSeq (mSet 7 (mBin dIx (mVarB 5) (mBin dAdd (mVarB 4) (mVarB 6)))) (mSeq (mStore 3 (mVar 7) (mVarB 4)) (mSeq (mFor (mArgs dEnum (mCons (mVar 2) mNil)) (bTup (bCons (bName 8) (bCons (bName 9) bNil))) (mSeq (mStore 5 (mBin dMod (mBin dSub (mBin dIx (mVarB 5) (mBin dAdd (mVarB 4) (mVarB 8))) (mBin dMul (mVarB 7) (mVarB 9))) (mVarB 0)) (mBin dAdd (mVarB 4) (mVarB 8))) (mNo 9 (mNo 8 mSkip)))) (mNo 9 (mNo 8 (mNo 7 (mNo 4 mSkip)))))))) (mFrzS 5 (mFrzS 3 (mRet (mTup (mCons (mCall 1 f_trimmed_off (mCons (mVar 3) mNil)) (mCons (mCall 1 f_trimmed_off (mCons (mVar 5) mNil)) mNil)))))))))
noncomputable def f_polynomial_rest : List D → R D := mFun 10 3 f_polynomial_rest_b
set_option maxRecDepth 100000 in
set_option maxHeartbeats 8000000 in
theorem b_polynomial_rest {P : Program} {w : World} {K : PySem.W.Frag} {mg : Str → Option Value} {base : Heap} (T : Bi mg) (G_trimmed_off : Cal P w K mg base 1 "trimmed_off" 1 f_trimmed_off) : BodyOk P w K mg base n_polynomial_rest "polynomial_rest" s_polynomial_rest 1 f_polynomial_rest_b := fun f cdv A outer s H E B hr tk pf => by
  have nd := sc_polynomial_rest.nd
  exact (css_cons (cs_par2 5 6 rfl nd (ck_ow (co_list (cab_cons (cb_v 1) cab_nil) T.b_list)) (ck_sh (ce_sub (cb (ce_len (cab_cons (cb_v 2) cab_nil) T.b_len)) (cb ce_int)))) (css_cons (cs_own 3 nd (co_mul (cb (ce_frz (co_lst (ca_cons ce_int ca_nil)))) (cb (ce_max2 (cab_cons (cb (ce_sub (cb (ce_len (cab_cons (cb_v 1) cab_nil) T.b_len)) (cb_v 6))) (cab_cons (cb ce_int) cab_nil)) rfl T.b_max)))) (css_cons (cs_for (ws := [4]) pf rfl (ci_range3 T.b_range (ca_cons (ce_sub (cb (ce_len (cab_cons (cb_v 3) cab_nil) T.b_len)) (cb ce_int)) (ca_cons (ce_neg (cb ce_int)) (ca_cons (ce_neg (cb ce_int)) ca_nil)))) (cg_name 4 nd) (css_cons (cs_set 7 nd (ce_ix (cb_v 5) (cb (ce_add (cb_v 4) (cb_v 6))))) (css_cons (cs_store 3 (ce_v 7) (pv 3) (cb_v 4)) (css_cons (cs_for (ws := [8, 9]) pf rfl (ci_enum T.b_enumerate (ca_cons (ce_v 2) ca_nil)) (cg_tup rfl (cgs_cons (cg_name 8 nd) (cgs_cons (cg_name 9 nd) cgs_nil)) (bnS (bnS bn0))) (css_cons (cs_store 5 (ce_mod (cb (ce_sub (cb (ce_ix (cb_v 5) (cb (ce_add (cb_v 4) (cb_v 8))))) (cb (ce_mul (cb_v 7) (cb_v 9))))) (cb_v 0)) (pv 5) (cb (ce_add (cb_v 4) (cb_v 8)))) (css_no 9 (css_no 8 css_nil)))) (css_no 9 (css_no 8 (css_no 7 (css_no 4 css_nil)))))))) (css_frz 5 (css_frz 3 (css_one (cs_ret (ce_tup (ca_cons (ce_call G_trimmed_off hr (by decide) tk (ca_cons (ce_v 3) ca_nil)) (ca_cons (ce_call G_trimmed_off hr (by decide) tk (ca_cons (ce_v 5) ca_nil)) ca_nil))))))))))

/-! ## numbered_polynomial: 0 p, 1 degree, 2 number, 3 found, 4 _ -/
abbrev s_numbered_polynomial : Stmt := top 5
abbrev n_numbered_polynomial : List Str := ["p", "degree", "number", "found", "_"]
theorem sc_numbered_polynomial : FnScope n_numbered_polynomial ["p", "degree", "number"] (defScope s_numbered_polynomial) := ⟨rfl, rfl, rfl, by decide +kernel, rfl, by decide +kernel, by decide +kernel⟩
def f_numbered_polynomial_b : Rho → R Out := (mSeq (mOwn 3 (mLst mNil)) (mSeq (mFor (mArgs dRange1 (mCons (mVar 1) mNil)) (bName 4) (mSeq (mApp 3 (mBin dMod (mVarB 2) (mVarB 0))) (mSeq (mAug 2 dIDiv (mVarB 0)) (mNo 4 mSkip)))) (mRet (mTupC (mBin dAdd (mVarB 3) (mFrz (mLst (mCons (mC (.int 1)) mNil))))))))
def f_numbered_polynomial : List D → R D := mFun 5 3 f_numbered_polynomial_b
set_option maxRecDepth 100000 in
set_option maxHeartbeats 8000000 in
theorem b_numbered_polynomial {P : Program} {w : World} {K : PySem.W.Frag} {mg : Str → Option Value} {base : Heap} (T : Bi mg) : BodyOk P w K mg base n_numbered_polynomial "numbered_polynomial" s_numbered_polynomial 0 f_numbered_polynomial_b := fun f cdv A outer s H E B hr tk pf => by
  have nd := sc_numbered_polynomial.nd
  exact (css_cons (cs_own 3 nd (co_lst ca_nil)) (css_cons (cs_for (ws := [4]) pf rfl (ci_range1 T.b_range (ca_cons (ce_v 1) ca_nil)) (cg_name 4 nd) (css_cons (cs_app 3 (pe_bm PySem.F.plainAttrs_list PySem.F.slot_list_append PySem.F.type_list_append mt_append (pv 3) (pa_cons (ce_mod (cb_v 2) (cb_v 0)) pa_nil))) (css_cons (cs_idiv 2 nd (cb_v 0)) (css_no 4 css_nil)))) (css_one (cs_ret (ce_tuple (cb (ce_add (cb_v 3) (cb (ce_frz (co_lst (ca_cons ce_int ca_nil)))))) T.b_tuple)))))

/-! ## polynomial_factors: 0 p, 1 polynomial, 2 found, 3 rest, 4 degree, 5 number, 6 one, 7 quotient, 8 left -/
abbrev s_polynomial_factors : Stmt := top 6
abbrev n_polynomial_factors : List Str := ["p", "polynomial", "found", "rest", "degree", "number", "one", "quotient", "left"]
theorem sc_polynomial_factors : FnScope n_polynomial_factors ["p", "polynomial"] (defScope s_polynomial_factors) := ⟨rfl, rfl, rfl, by decide +kernel, rfl, by decide +kernel, by decide +kernel⟩
noncomputable def f_polynomial_factors_b : Rho → R Out := (mSeq (mPar3 2 3 4 (mOw (mLst mNil)) (mSh (mTupC (mVarB 1))) (mSh (mC (.int 1)))) (mSeq (mWhile (mTb (mBin dLt (mBin dMul (mC (.int 2)) (mVarB 4)) (mBi dLen (mCons (mVarB 3) mNil)))) (mSeq (mFor (mArgs dRange1 (mCons (mCall 2 f_small_power (mCons (mVar 0) (mCons (mVar 4) mNil))) mNil)) (bName 5) (mSeq (mSet 6 (mCall 3 f_numbered_polynomial (mCons (mVar 0) (mCons (mVar 4) (mCons (mVar 5) mNil))))) (mSeq (mAsg (bTup (bCons (bName 7) (bCons (bName 8) bNil))) (mCall 3 f_polynomial_rest (mCons (mVar 0) (mCons (mVar 3) (mCons (mVar 6) mNil))))) (mSeq (mWhile (mAndT (mTb (mBin dEq (mVarB 8) (mTup mNil))) (mTb (mBin dGe (mBi dLen (mCons (mVarB 3) mNil)) (mBi dLen (mCons (mVarB 6) mNil))))) (mSeq (mApp 2 (mVar 6)) (mSeq (mSet 3 (mVar 7)) (mAsg (bTup (bCons (bName 7) (bCons (bName 8) bNil))) (mCall 3 f_polynomial_rest (mCons (mVar 0) (mCons (mVar 3) (mCons (mVar 6) mNil)))))))) (mNo 8 (mNo 7 (mNo 6 (mNo 5 mSkip)))))))) (mSeq (mAug 4 dIAdd (mC (.int 1))) (mNo 8 (mNo 7 (mNo 6 (mNo 5 mSkip))))))) (mRet (mIfE (mTb (mBin dGt (mBi dLen (mCons (mVarB 3) mNil)) (mC (.int 1)))) (mTupC (mBin dAdd (mVarB 2) (mFrz (mLst (mCons (mVar 3) mNil))))) (mTupC (mVarB 2))))))
noncomputable def f_polynomial_factors : List D → R D := mFun 9 2 f_polynomial_factors_b
set_option maxRecDepth 100000 in
set_option maxHeartbeats 8000000 in
theorem b_polynomial_factors {P : Program} {w : World} {K : PySem.W.Frag} {mg : Str → Option Value} {base : Heap} (T : Bi mg) (G_numbered_polynomial : Cal P w K mg base 1 "numbered_polynomial" 3 f_numbered_polynomial) (G_polynomial_rest : Cal P w K mg base 2 "polynomial_rest" 3 f_polynomial_rest) (G_small_power : Cal P w K mg base 1 "small_power" 2 f_small_power) : BodyOk P w K mg base n_polynomial_factors "polynomial_factors" s_polynomial_factors 2 f_polynomial_factors_b := fun f cdv A outer s H E B hr tk pf => by
  have nd := sc_polynomial_factors.nd
  exact (css_cons (cs_par3 2 3 4 rfl nd (ck_ow (co_lst ca_nil)) (ck_sh (ce_tuple (cb_v 1) T.b_tuple)) (ck_sh ce_int)) (css_cons (cs_while pf (ct_lt (cb (ce_mul (cb ce_int) (cb_v 4))) (cb (ce_len (cab_cons (cb_v 3) cab_nil) T.b_len))) (css_cons (cs_for (ws := [5]) pf rfl (ci_range1 T.b_range (ca_cons (ce_call G_small_power hr (by decide) tk (ca_cons (ce_v 0) (ca_cons (ce_v 4) ca_nil))) ca_nil)) (cg_name 5 nd) (css_cons (cs_set 6 nd (ce_call G_numbered_polynomial hr (by decide) tk (ca_cons (ce_v 0) (ca_cons (ce_v 4) (ca_cons (ce_v 5) ca_nil))))) (css_cons (cs_asg (ws := [7, 8]) (ce_call G_polynomial_rest hr (by decide) tk (ca_cons (ce_v 0) (ca_cons (ce_v 3) (ca_cons (ce_v 6) ca_nil)))) (cg_tup rfl (cgs_cons (cg_name 7 nd) (cgs_cons (cg_name 8 nd) cgs_nil)) (bnS (bnS bn0)))) (css_cons (cs_while pf (PW.pt (cw_and (ct_eq hr.room.units (cb_v 8) (cb (ce_tup ca_nil))) (cw_and1 (ct_ge (cb (ce_len (cab_cons (cb_v 3) cab_nil) T.b_len)) (cb (ce_len (cab_cons (cb_v 6) cab_nil) T.b_len)))))) (css_cons (cs_app 2 (pe_bm PySem.F.plainAttrs_list PySem.F.slot_list_append PySem.F.type_list_append mt_append (pv 2) (pa_cons (ce_v 6) pa_nil))) (css_cons (cs_set 3 nd (ce_v 7)) (css_one (cs_asg (ws := [7, 8]) (ce_call G_polynomial_rest hr (by decide) tk (ca_cons (ce_v 0) (ca_cons (ce_v 3) (ca_cons (ce_v 6) ca_nil)))) (cg_tup rfl (cgs_cons (cg_name 7 nd) (cgs_cons (cg_name 8 nd) cgs_nil)) (bnS (bnS bn0)))))))) (css_no 8 (css_no 7 (css_no 6 (css_no 5 css_nil)))))))) (css_cons (cs_iadd 4 nd (cb ce_int)) (css_no 8 (css_no 7 (css_no 6 (css_no 5 css_nil))))))) (css_one (cs_ret (ce_if (ct_gt (cb (ce_len (cab_cons (cb_v 3) cab_nil) T.b_len)) (cb ce_int)) (ce_tuple (cb (ce_add (cb_v 2) (cb (ce_frz (co_lst (ca_cons (ce_v 3) ca_nil)))))) T.b_tuple) (ce_tuple (cb_v 2) T.b_tuple))))))

/-! ## prime_polynomials: 0 p, 1 degree, 2 some, 3 number, 4 one -/
abbrev s_prime_polynomials : Stmt := top 7
abbrev n_prime_polynomials : List Str := ["p", "degree", "some", "number", "one"]
theorem sc_prime_polynomials : FnScope n_prime_polynomials ["p", "degree"] (defScope s_prime_polynomials) := ⟨rfl, rfl, rfl, by decide +kernel, rfl, by decide +kernel, by decide +kernel⟩
noncomputable def f_prime_polynomials_b : Rho → R Out := (mSeq (mOwn 2 (mComp [3] (mArgs dRange1 (mCons (mCall 2 f_small_power (mCons (mVar 0) (mCons (mVar 1) mNil))) mNil)) (bName 3) mYes (mCall 3 f_numbered_polynomial (mCons (mVar 0) (mCons (mVar 1) (mCons (mVar 3) mNil)))))) (mFrzS 2 (mRet (mTupC (mFrz (mComp [4] (mIter (mVar 2)) (bName 4) (mTb (mBin dEq (mCall 2 f_polynomial_factors (mCons (mVar 0) (mCons (mVar 4) mNil))) (mTup (mCons (mVar 4) mNil)))) (mVar 4)))))))
noncomputable def f_prime_polynomials : List D → R D := mFun 5 2 f_prime_polynomials_b
set_option maxRecDepth 100000 in
set_option maxHeartbeats 8000000 in
theorem b_prime_polynomials {P : Program} {w : World} {K : PySem.W.Frag} {mg : Str → Option Value} {base : Heap} (T : Bi mg) (G_numbered_polynomial : Cal P w K mg base 1 "numbered_polynomial" 3 f_numbered_polynomial) (G_polynomial_factors : Cal P w K mg base 3 "polynomial_factors" 2 f_polynomial_factors) (G_small_power : Cal P w K mg base 1 "small_power" 2 f_small_power) : BodyOk P w K mg base n_prime_polynomials "prime_polynomials" s_prime_polynomials 3 f_prime_polynomials_b := fun f cdv A outer s H E B hr tk pf => by
  have nd := sc_prime_polynomials.nd
  exact (css_cons (cs_lc 2 rfl nd ([("number", 3)] : List (Str × Nat)) (ci_range1 T.b_range (ca_cons (ce_call G_small_power hr (by decide) tk (ca_cons (ce_v 0) (ca_cons (ce_v 1) ca_nil))) ca_nil)) (blkOk_by (N := n_prime_polynomials) (sc := defScope s_prime_polynomials) (by decide +kernel)) (fun _ _ _ _ _ => (cg_name 3 nd)) (fun _ _ _ _ _ => ct_yes) (fun _ _ _ _ _ => (ce_call G_numbered_polynomial hr (by decide) takes0 (ca_cons (ce_v 0) (ca_cons (ce_v 1) (ca_cons (ce_v 3) ca_nil)))))) (css_frz 2 (css_one (cs_ret (ce_tuple (cb (ce_frz (co_lc rfl nd ([("one", 4)] : List (Str × Nat)) (ci_seq (ce_v 2)) (blkOk_by (N := n_prime_polynomials) (sc := defScope s_prime_polynomials) (by decide +kernel)) (fun _ _ _ _ _ => (cg_name 4 nd)) (fun _ _ _ _ _ => (pts_one (ct_eq hr.room.units (cb (ce_call G_polynomial_factors hr (by decide) takes0 (ca_cons (ce_v 0) (ca_cons (ce_v 4) ca_nil)))) (cb (ce_tup (ca_cons (ce_v 4) ca_nil)))))) (fun _ _ _ _ _ => (ce_v 4))))) T.b_tuple)))))

/-! ## _law_of: 0 _law_deal_here, 1 _law_some -/
abbrev s_l_of : Stmt := top 11
abbrev n_l_of : List Str := ["_law_deal_here", "_law_some"]
theorem sc_l_of : FnScope n_l_of ["_law_deal_here", "_law_some"] (defScope s_l_of) := ⟨rfl, rfl, rfl, by decide +kernel, rfl, by decide +kernel, by decide +kernel⟩
def f_l_of_b : Rho → R Out := (mRet (mBin dIx (mVarB 1) (mCall 2 f_l_any (mCons (mVar 0) (mCons (mBi dLen (mCons (mVarB 1) mNil)) mNil)))))
def f_l_of : List D → R D := mFun 2 2 f_l_of_b
set_option maxRecDepth 100000 in
set_option maxHeartbeats 8000000 in
theorem b_l_of {P : Program} {w : World} {K : PySem.W.Frag} {mg : Str → Option Value} {base : Heap} (T : Bi mg) (G_l_any : Cal P w K mg base 1 "_law_any" 2 f_l_any) : BodyOk P w K mg base n_l_of "_law_of" s_l_of 1 f_l_of_b := fun f cdv A outer s H E B hr tk pf => by
  have nd := sc_l_of.nd
  exact (css_one (cs_ret (ce_ix (cb_v 1) (cb (ce_call G_l_any hr (by decide) tk (ca_cons (ce_v 0) (ca_cons (ce_len (cab_cons (cb_v 1) cab_nil) T.b_len) ca_nil)))))))

/-! ## _law_power: 0 _law_base, 1 _law_times, 2 _law_found, 3 _law_turn -/
abbrev s_l_power : Stmt := top 12
abbrev n_l_power : List Str := ["_law_base", "_law_times", "_law_found", "_law_turn"]
theorem sc_l_power : FnScope n_l_power ["_law_base", "_law_times"] (defScope s_l_power) := ⟨rfl, rfl, rfl, by decide +kernel, rfl, by decide +kernel, by decide +kernel⟩
def f_l_power_b : Rho → R Out := (mSeq (mSet 2 (mC (.int 1))) (mSeq (mFor (mArgs dRange1 (mCons (mVar 1) mNil)) (bName 3) (mSeq (mSet 2 (mBin dMul (mVarB 2) (mVarB 0))) (mNo 3 mSkip))) (mRet (mVar 2))))
def f_l_power : List D → R D := mFun 4 2 f_l_power_b
set_option maxRecDepth 100000 in
set_option maxHeartbeats 8000000 in
theorem b_l_power {P : Program} {w : World} {K : PySem.W.Frag} {mg : Str → Option Value} {base : Heap} (T : Bi mg) : BodyOk P w K mg base n_l_power "_law_power" s_l_power 0 f_l_power_b := fun f cdv A outer s H E B hr tk pf => by
  have nd := sc_l_power.nd
  exact (css_cons (cs_set 2 nd ce_int) (css_cons (cs_for (ws := [3]) pf rfl (ci_range1 T.b_range (ca_cons (ce_v 1) ca_nil)) (cg_name 3 nd) (css_cons (cs_set 2 nd (ce_mul (cb_v 2) (cb_v 0))) (css_no 3 css_nil))) (css_one (cs_ret (ce_v 2)))))

/-! ## _law_monic: 0 _law_p, 1 _law_degree, 2 _law_number, 3 _law_found, 4 _law_turn -/
abbrev s_l_monic : Stmt := top 13
abbrev n_l_monic : List Str := ["_law_p", "_law_degree", "_law_number", "_law_found", "_law_turn"]
theorem sc_l_monic : FnScope n_l_monic ["_law_p", "_law_degree", "_law_number"] (defScope s_l_monic) := ⟨rfl, rfl, rfl, by decide +kernel, rfl, by decide +kernel, by decide +kernel⟩
def f_l_monic_b : Rho → R Out := (mSeq (mOwn 3 (mLst mNil)) (mSeq (mFor (mArgs dRange1 (mCons (mVar 1) mNil)) (bName 4) (mSeq (mApp 3 (mBin dMod (mBi dInt (mCons (mVarB 2) mNil)) (mVarB 0))) (mSeq (mSet 2 (mBin dDiv (mVarB 2) (mVarB 0))) (mNo 4 mSkip)))) (mRet (mBin dAdd (mVarB 3) (mFrz (mLst (mCons (mC (.int 1)) mNil)))))))
def f_l_monic : List D → R D := mFun 5 3 f_l_monic_b
set_option maxRecDepth 100000 in
set_option maxHeartbeats 8000000 in
theorem b_l_monic {P : Program} {w : World} {K : PySem.W.Frag} {mg : Str → Option Value} {base : Heap} (T : Bi mg) : BodyOk P w K mg base n_l_monic "_law_monic" s_l_monic 0 f_l_monic_b := fun f cdv A outer s H E B hr tk pf => by
  have nd := sc_l_monic.nd
  exact (css_cons (cs_own 3 nd (co_lst ca_nil)) (css_cons (cs_for (ws := [4]) pf rfl (ci_range1 T.b_range (ca_cons (ce_v 1) ca_nil)) (cg_name 4 nd) (css_cons (cs_app 3 (pe_bm PySem.F.plainAttrs_list PySem.F.slot_list_append PySem.F.type_list_append mt_append (pv 3) (pa_cons (ce_mod (cb (ce_intc (cab_cons (cb_v 2) cab_nil) T.b_int)) (cb_v 0)) pa_nil))) (css_cons (cs_set 2 nd (ce_div (cb_v 2) (cb_v 0))) (css_no 4 css_nil)))) (css_one (cs_ret (ce_add (cb_v 3) (cb (ce_frz (co_lst (ca_cons ce_int ca_nil)))))))))

/-! ## _law_rest: 0 _law_p, 1 _law_one, 2 _law_other, 3 _law_many, 4 _law_rest_here, 5 _law_at, 6 _law_top, 7 _law_further -/
abbrev s_l_rest : Stmt := top 14
abbrev n_l_rest : List Str := ["_law_p", "_law_one", "_law_other", "_law_many", "_law_rest_here", "_law_at", "_law_top", "_law_further"]
theorem sc_l_rest : FnScope n_l_rest ["_law_p", "_law_one", "_law_other"] (defScope s_l_rest) := ⟨rfl, rfl, rfl, by decide +kernel, rfl, by decide +kernel, by decide +kernel⟩
def f_l_rest_b : Rho → R Out := (mSeq (mSet 3 (mBin dSub (mBi dLen (mCons (mVarB 2) mNil)) (mC (.int 1)))) (mSeq (mOwn 4 (mAddL (mFrz (mSeqL (mCons (mVarB 1) mNil))) (mBin dMul (mFrz (mLst (mCons (mC (.int 0)) mNil))) (mVarB 3)))) (mSeq (mFor (mArgs dRange3 (mCons (mBin dSub (mBi dLen (mCons (mVarB 4) mNil)) (mC (.int 1))) (mCons (mBin dSub (mVarB 3) (mC (.int 1))) (mCons (mBin dSub (mC (.int 0)) (mC (.int 1))) mNil)))) (bName 5) (mSeq (mSet 6 (mBin dIx (mVarB 4) (mVarB 5))) (mSeq (mFor (mArgs dRange1 (mCons (mBin dAdd (mVarB 3) (mC (.int 1))) mNil)) (bName 7) (mSeq (mStore 4 (mBin dMod (mBi dInt (mCons (mBin dSub (mBin dIx (mVarB 4) (mBin dAdd (mBin dSub (mVarB 5) (mVarB 3)) (mVarB 7))) (mBin dMul (mVarB 6) (mBin dIx (mVarB 2) (mVarB 7)))) mNil)) (mVarB 0)) (mBin dAdd (mBin dSub (mVarB 5) (mVarB 3)) (mVarB 7))) (mNo 7 mSkip))) (mNo 7 (mNo 6 (mNo 5 mSkip)))))) (mRet (mCut (mVarB 4) mNone (mPart (mVarB 3)))))))
def f_l_rest : List D → R D := mFun 8 3 f_l_rest_b
set_option maxRecDepth 100000 in
set_option maxHeartbeats 8000000 in
theorem b_l_rest {P : Program} {w : World} {K : PySem.W.Frag} {mg : Str → Option Value} {base : Heap} (T : Bi mg) : BodyOk P w K mg base n_l_rest "_law_rest" s_l_rest 0 f_l_rest_b := fun f cdv A outer s H E B hr tk pf => by
  have nd := sc_l_rest.nd
  exact (css_cons (cs_set 3 nd (ce_sub (cb (ce_len (cab_cons (cb_v 2) cab_nil) T.b_len)) (cb ce_int))) (css_cons (cs_own 4 nd (co_add (cb (ce_frz (co_list (cab_cons (cb_v 1) cab_nil) T.b_list))) (cb (ce_mul (cb (ce_frz (co_lst (ca_cons ce_int ca_nil)))) (cb_v 3))))) (css_cons (cs_for (ws := [5]) pf rfl (ci_range3 T.b_range (ca_cons (ce_sub (cb (ce_len (cab_cons (cb_v 4) cab_nil) T.b_len)) (cb ce_int)) (ca_cons (ce_sub (cb_v 3) (cb ce_int)) (ca_cons (ce_sub (cb ce_int) (cb ce_int)) ca_nil)))) (cg_name 5 nd) (css_cons (cs_set 6 nd (ce_ix (cb_v 4) (cb_v 5))) (css_cons (cs_for (ws := [7]) pf rfl (ci_range1 T.b_range (ca_cons (ce_add (cb_v 3) (cb ce_int)) ca_nil)) (cg_name 7 nd) (css_cons (cs_store 4 (ce_mod (cb (ce_intc (cab_cons (cb (ce_sub (cb (ce_ix (cb_v 4) (cb (ce_add (cb (ce_sub (cb_v 5) (cb_v 3))) (cb_v 7))))) (cb (ce_mul (cb_v 6) (cb (ce_ix (cb_v 2) (cb_v 7))))))) cab_nil) T.b_int)) (cb_v 0)) (pv 4) (cb (ce_add (cb (ce_sub (cb_v 5) (cb_v 3))) (cb_v 7)))) (css_no 7 css_nil))) (css_no 7 (css_no 6 (css_no 5 css_nil)))))) (css_one (cs_ret (ce_cut (cb_v 4) cp_none (cp_some (cb_v 3))))))))

/-! ## _law_is_prime: 0 _law_p, 1 _law_polynomial, 2 _law_degree, 3 _law_less, 4 _law_number -/
abbrev s_l_is_prime : Stmt := top 15
abbrev n_l_is_prime : List Str := ["_law_p", "_law_polynomial", "_law_degree", "_law_less", "_law_number"]
theorem sc_l_is_prime : FnScope n_l_is_prime ["_law_p", "_law_polynomial"] (defScope s_l_is_prime) := ⟨rfl, rfl, rfl, by decide +kernel, rfl, by decide +kernel, by decide +kernel⟩
def f_l_is_prime_b : Rho → R Out := (mSeq (mSet 2 (mBin dSub (mBi dLen (mCons (mVarB 1) mNil)) (mC (.int 1)))) (mSeq (mFor (mArgs dRange2 (mCons (mC (.int 1)) (mCons (mBin dAdd (mBin dDiv (mVarB 2) (mC (.int 2))) (mC (.int 1))) mNil))) (bName 3) (mSeq (mFor (mArgs dRange1 (mCons (mCall 2 f_l_power (mCons (mVar 0) (mCons (mVar 3) mNil))) mNil)) (bName 4) (mSeq (mIf (mTb (mBin dEq (mCall 3 f_l_rest (mCons (mVar 0) (mCons (mVar 1) (mCons (mCall 3 f_l_monic (mCons (mVar 0) (mCons (mVar 3) (mCons (mVar 4) mNil)))) mNil)))) (mBin dMul (mFrz (mLst (mCons (mC (.int 0)) mNil))) (mVarB 3)))) (mRet (mC (.bl false))) mSkip) (mNo 4 mSkip))) (mNo 4 (mNo 3 mSkip)))) (mRet (mBin dGt (mVarB 2) (mC (.int 0))))))
def f_l_is_prime : List D → R D := mFun 5 2 f_l_is_prime_b
set_option maxRecDepth 100000 in
set_option maxHeartbeats 8000000 in
theorem b_l_is_prime {P : Program} {w : World} {K : PySem.W.Frag} {mg : Str → Option Value} {base : Heap} (T : Bi mg) (G_l_monic : Cal P w K mg base 1 "_law_monic" 3 f_l_monic) (G_l_power : Cal P w K mg base 1 "_law_power" 2 f_l_power) (G_l_rest : Cal P w K mg base 1 "_law_rest" 3 f_l_rest) : BodyOk P w K mg base n_l_is_prime "_law_is_prime" s_l_is_prime 1 f_l_is_prime_b := fun f cdv A outer s H E B hr tk pf => by
  have nd := sc_l_is_prime.nd
  exact (css_cons (cs_set 2 nd (ce_sub (cb (ce_len (cab_cons (cb_v 1) cab_nil) T.b_len)) (cb ce_int))) (css_cons (cs_for (ws := [3]) pf rfl (ci_range2 T.b_range (ca_cons ce_int (ca_cons (ce_add (cb (ce_div (cb_v 2) (cb ce_int))) (cb ce_int)) ca_nil))) (cg_name 3 nd) (css_cons (cs_for (ws := [4]) pf rfl (ci_range1 T.b_range (ca_cons (ce_call G_l_power hr (by decide) tk (ca_cons (ce_v 0) (ca_cons (ce_v 3) ca_nil))) ca_nil)) (cg_name 4 nd) (css_cons (cs_if (ct_eq hr.room.units (cb (ce_call G_l_rest hr (by decide) tk (ca_cons (ce_v 0) (ca_cons (ce_v 1) (ca_cons (ce_call G_l_monic hr (by decide) tk (ca_cons (ce_v 0) (ca_cons (ce_v 3) (ca_cons (ce_v 4) ca_nil)))) ca_nil))))) (cb (ce_mul (cb (ce_frz (co_lst (ca_cons ce_int ca_nil)))) (cb_v 3)))) (css_one (cs_ret ce_bl)) css_nil) (css_no 4 css_nil))) (css_no 4 (css_no 3 css_nil)))) (css_one (cs_ret (ce_gt (cb_v 2) (cb ce_int))))))

/-! ## _law_size: 0 _law_deal_here, 1 _law_small, 2 _law_great -/
abbrev s_l_size : Stmt := top 16
abbrev n_l_size : List Str := ["_law_deal_here", "_law_small", "_law_great"]
theorem sc_l_size : FnScope n_l_size ["_law_deal_here"] (defScope s_l_size) := ⟨rfl, rfl, rfl, by decide +kernel, rfl, by decide +kernel, by decide +kernel⟩
def f_l_size_b : Rho → R Out := (mSeq (mSet 1 (mFrz (mLst (mCons (mTup (mCons (mC (.int 2)) (mCons (mC (.int 1)) mNil))) (mCons (mTup (mCons (mC (.int 3)) (mCons (mC (.int 1)) mNil))) (mCons (mTup (mCons (mC (.int 2)) (mCons (mC (.int 2)) mNil))) (mCons (mTup (mCons (mC (.int 5)) (mCons (mC (.int 1)) mNil))) (mCons (mTup (mCons (mC (.int 7)) (mCons (mC (.int 1)) mNil))) (mCons (mTup (mCons (mC (.int 2)) (mCons (mC (.int 3)) mNil))) (mCons (mTup (mCons (mC (.int 3)) (mCons (mC (.int 2)) mNil))) (mCons (mTup (mCons (mC (.int 2)) (mCons (mC (.int 2)) mNil))) (mCons (mTup (mCons (mC (.int 3)) (mCons (mC (.int 2)) mNil))) (mCons (mTup (mCons (mC (.int 2)) (mCons (mC (.int 3)) mNil))) (mCons (mTup (mCons (mC (.int 11)) (mCons (mC (.int 1)) mNil))) (mCons (mTup (mCons (mC (.int 13)) (mCons (mC (.int 1)) mNil))) (mCons (mTup (mCons (mC (.int 2)) (mCons (mC (.int 4)) mNil))) mNil)))))))))))))))) (mSeq (mSet 2 (mFrz (mLst (mCons (mTup (mCons (mC (.int 5)) (mCons (mC (.int 2)) mNil))) (mCons (mTup (mCons (mC (.int 3)) (mCons (mC (.int 3)) mNil))) (mCons (mTup (mCons (mC (.int 2)) (mCons (mC (.int 5)) mNil))) (mCons (mTup (mCons (mC (.int 7)) (mCons (mC (.int 2)) mNil))) (mCons (mTup (mCons (mC (.int 17)) (mCons (mC (.int 1)) mNil))) (mCons (mTup (mCons (mC (.int 19)) (mCons (mC (.int 1)) mNil))) (mCons (mTup (mCons (mC (.int 23)) (mCons (mC (.int 1)) mNil))) (mCons (mTup (mCons (mC (.int 29)) (mCons (mC (.int 1)) mNil))) (mCons (mTup (mCons (mC (.int 31)) (mCons (mC (.int 1)) mNil))) (mCons (mTup (mCons (mC (.int 37)) (mCons (mC (.int 1)) mNil))) (mCons (mTup (mCons (mC (.int 41)) (mCons (mC (.int 1)) mNil))) (mCons (mTup (mCons (mC (.int 43)) (mCons (mC (.int 1)) mNil))) (mCons (mTup (mCons (mC (.int 47)) (mCons (mC (.int 1)) mNil))) mNil)))))))))))))))) (mRet (mIfE (mTb (mBin dEq (mCall 2 f_l_any (mCons (mVar 0) (mCons (mC (.int 6)) mNil))) (mC (.int 5)))) (mCall 2 f_l_of (mCons (mVar 0) (mCons (mVar 2) mNil))) (mCall 2 f_l_of (mCons (mVar 0) (mCons (mVar 1) mNil)))))))
def f_l_size : List D → R D := mFun 3 1 f_l_size_b
set_option maxRecDepth 100000 in
set_option maxHeartbeats 8000000 in
theorem b_l_size {P : Program} {w : World} {K : PySem.W.Frag} {mg : Str → Option Value} {base : Heap} (T : Bi mg) (G_l_any : Cal P w K mg base 1 "_law_any" 2 f_l_any) (G_l_of : Cal P w K mg base 2 "_law_of" 2 f_l_of) : BodyOk P w K mg base n_l_size "_law_size" s_l_size 2 f_l_size_b := fun f cdv A outer s H E B hr tk pf => by
  have nd := sc_l_size.nd
  exact (css_cons (cs_set 1 nd (ce_frz (co_lst (ca_cons (ce_tup (ca_cons ce_int (ca_cons ce_int ca_nil))) (ca_cons (ce_tup (ca_cons ce_int (ca_cons ce_int ca_nil))) (ca_cons (ce_tup (ca_cons ce_int (ca_cons ce_int ca_nil))) (ca_cons (ce_tup (ca_cons ce_int (ca_cons ce_int ca_nil))) (ca_cons (ce_tup (ca_cons ce_int (ca_cons ce_int ca_nil))) (ca_cons (ce_tup (ca_cons ce_int (ca_cons ce_int ca_nil))) (ca_cons (ce_tup (ca_cons ce_int (ca_cons ce_int ca_nil))) (ca_cons (ce_tup (ca_cons ce_int (ca_cons ce_int ca_nil))) (ca_cons (ce_tup (ca_cons ce_int (ca_cons ce_int ca_nil))) (ca_cons (ce_tup (ca_cons ce_int (ca_cons ce_int ca_nil))) (ca_cons (ce_tup (ca_cons ce_int (ca_cons ce_int ca_nil))) (ca_cons (ce_tup (ca_cons ce_int (ca_cons ce_int ca_nil))) (ca_cons (ce_tup (ca_cons ce_int (ca_cons ce_int ca_nil))) ca_nil)))))))))))))))) (css_cons (cs_set 2 nd (ce_frz (co_lst (ca_cons (ce_tup (ca_cons ce_int (ca_cons ce_int ca_nil))) (ca_cons (ce_tup (ca_cons ce_int (ca_cons ce_int ca_nil))) (ca_cons (ce_tup (ca_cons ce_int (ca_cons ce_int ca_nil))) (ca_cons (ce_tup (ca_cons ce_int (ca_cons ce_int ca_nil))) (ca_cons (ce_tup (ca_cons ce_int (ca_cons ce_int ca_nil))) (ca_cons (ce_tup (ca_cons ce_int (ca_cons ce_int ca_nil))) (ca_cons (ce_tup (ca_cons ce_int (ca_cons ce_int ca_nil))) (ca_cons (ce_tup (ca_cons ce_int (ca_cons ce_int ca_nil))) (ca_cons (ce_tup (ca_cons ce_int (ca_cons ce_int ca_nil))) (ca_cons (ce_tup (ca_cons ce_int (ca_cons ce_int ca_nil))) (ca_cons (ce_tup (ca_cons ce_int (ca_cons ce_int ca_nil))) (ca_cons (ce_tup (ca_cons ce_int (ca_cons ce_int ca_nil))) (ca_cons (ce_tup (ca_cons ce_int (ca_cons ce_int ca_nil))) ca_nil)))))))))))))))) (css_one (cs_ret (ce_if (ct_eq hr.room.units (cb (ce_call G_l_any hr (by decide) tk (ca_cons (ce_v 0) (ca_cons ce_int ca_nil)))) (cb ce_int)) (ce_call G_l_of hr (by decide) tk (ca_cons (ce_v 0) (ca_cons (ce_v 2) ca_nil))) (ce_call G_l_of hr (by decide) tk (ca_cons (ce_v 0) (ca_cons (ce_v 1) ca_nil))))))))

/-! ## _law_modulus: 0 _law_deal_here, 1 _law_p, 2 _law_degree, 3 _law_many, 4 _law_start, 5 _law_step, 6 _law_found -/
abbrev s_l_modulus : Stmt := top 17
abbrev n_l_modulus : List Str := ["_law_deal_here", "_law_p", "_law_degree", "_law_many", "_law_start", "_law_step", "_law_found"]
theorem sc_l_modulus : FnScope n_l_modulus ["_law_deal_here", "_law_p", "_law_degree"] (defScope s_l_modulus) := ⟨rfl, rfl, rfl, by decide +kernel, rfl, by decide +kernel, by decide +kernel⟩
def f_l_modulus_b : Rho → R Out := (mSeq (mSet 3 (mCall 2 f_l_power (mCons (mVar 1) (mCons (mVar 2) mNil)))) (mSeq (mSet 4 (mCall 2 f_l_any (mCons (mVar 0) (mCons (mVar 3) mNil)))) (mSeq (mFor (mArgs dRange1 (mCons (mVar 3) mNil)) (bName 5) (mSeq (mSet 6 (mCall 3 f_l_monic (mCons (mVar 1) (mCons (mVar 2) (mCons (mBin dMod (mBi dInt (mCons (mBin dAdd (mVarB 4) (mVarB 5)) mNil)) (mVarB 3)) mNil))))) (mSeq (mIf (mTt (mCall 2 f_l_is_prime (mCons (mVar 1) (mCons (mVar 6) mNil)))) (mRet (mVar 6)) mSkip) (mNo 6 (mNo 5 mSkip))))) (mRet (mFrz (mLst (mCons (mC (.int 0)) (mCons (mC (.int 1)) mNil))))))))
def f_l_modulus : List D → R D := mFun 7 3 f_l_modulus_b
set_option maxRecDepth 100000 in
set_option maxHeartbeats 8000000 in
theorem b_l_modulus {P : Program} {w : World} {K : PySem.W.Frag} {mg : Str → Option Value} {base : Heap} (T : Bi mg) (G_l_any : Cal P w K mg base 1 "_law_any" 2 f_l_any) (G_l_is_prime : Cal P w K mg base 2 "_law_is_prime" 2 f_l_is_prime) (G_l_monic : Cal P w K mg base 1 "_law_monic" 3 f_l_monic) (G_l_power : Cal P w K mg base 1 "_law_power" 2 f_l_power) : BodyOk P w K mg base n_l_modulus "_law_modulus" s_l_modulus 2 f_l_modulus_b := fun f cdv A outer s H E B hr tk pf => by
  have nd := sc_l_modulus.nd
  exact (css_cons (cs_set 3 nd (ce_call G_l_power hr (by decide) tk (ca_cons (ce_v 1) (ca_cons (ce_v 2) ca_nil)))) (css_cons (cs_set 4 nd (ce_call G_l_any hr (by decide) tk (ca_cons (ce_v 0) (ca_cons (ce_v 3) ca_nil)))) (css_cons (cs_for (ws := [5]) pf rfl (ci_range1 T.b_range (ca_cons (ce_v 3) ca_nil)) (cg_name 5 nd) (css_cons (cs_set 6 nd (ce_call G_l_monic hr (by decide) tk (ca_cons (ce_v 1) (ca_cons (ce_v 2) (ca_cons (ce_mod (cb (ce_intc (cab_cons (cb (ce_add (cb_v 4) (cb_v 5))) cab_nil) T.b_int)) (cb_v 3)) ca_nil))))) (css_cons (cs_if (ct_tru (cb (ce_call G_l_is_prime hr (by decide) tk (ca_cons (ce_v 1) (ca_cons (ce_v 6) ca_nil))))) (css_one (cs_ret (ce_v 6))) css_nil) (css_no 6 (css_no 5 css_nil))))) (css_one (cs_ret (ce_frz (co_lst (ca_cons ce_int (ca_cons ce_int ca_nil)))))))))

/-! ## _law_trimmed: 0 _law_values, 1 _law_found -/
abbrev s_l_trimmed : Stmt := top 18
abbrev n_l_trimmed : List Str := ["_law_values", "_law_found"]
theorem sc_l_trimmed : FnScope n_l_trimmed ["_law_values"] (defScope s_l_trimmed) := ⟨rfl, rfl, rfl, by decide +kernel, rfl, by decide +kernel, by decide +kernel⟩
noncomputable def f_l_trimmed_b : Rho → R Out := (mSeq (mOwn 1 (mSeqL (mCons (mVarB 0) mNil))) (mSeq (mWhile (mAndT (mTb (mBin dNe (mVarB 1) (mFrz (mLst mNil)))) (mTb (mBin dEq (mBin dIx (mVarB 1) (mUn dNeg (mC (.int 1)))) (mC (.int 0))))) (mPopS 1)) (mRet (mTupC (mVarB 1)))))
noncomputable def f_l_trimmed : List D → R D := mFun 2 1 f_l_trimmed_b
set_option maxRecDepth 100000 in
set_option maxHeartbeats 8000000 in
theorem b_l_trimmed {P : Program} {w : World} {K : PySem.W.Frag} {mg : Str → Option Value} {base : Heap} (T : Bi mg) : BodyOk P w K mg base n_l_trimmed "_law_trimmed" s_l_trimmed 0 f_l_trimmed_b := fun f cdv A outer s H E B hr tk pf => by
  have nd := sc_l_trimmed.nd
  exact (css_cons (cs_own 1 nd (co_list (cab_cons (cb_v 0) cab_nil) T.b_list)) (css_cons (cs_while pf (PW.pt (cw_and (ct_ne hr.room.units (cb_v 1) (cb (ce_frz (co_lst ca_nil)))) (cw_and1 (ct_eq hr.room.units (cb (ce_ix (cb_v 1) (cb (ce_neg (cb ce_int))))) (cb ce_int))))) (css_one (cs_popS 1 (pe_bm0 PySem.F.plainAttrs_list PySem.F.slot_list_pop PySem.F.type_list_pop mt_pop (pv 1))))) (css_one (cs_ret (ce_tuple (cb_v 1) T.b_tuple)))))

/-! ## _law_product: 0 _law_p, 1 _law_one, 2 _law_other, 3 _law_found, 4 _law_at, 5 _law_left, 6 _law_further, 7 _law_right -/
abbrev s_l_product : Stmt := top 19
abbrev n_l_product : List Str := ["_law_p", "_law_one", "_law_other", "_law_found", "_law_at", "_law_left", "_law_further", "_law_right"]
theorem sc_l_product : FnScope n_l_product ["_law_p", "_law_one", "_law_other"] (defScope s_l_product) := ⟨rfl, rfl, rfl, by decide +kernel, rfl, by decide +kernel, by decide +kernel⟩
noncomputable def f_l_product_b : Rho → R Out := (mSeq (mOwn 3 (mMulL (mFrz (mLst (mCons (mC (.int 0)) mNil))) (mBin dAdd (mBi dLen (mCons (mVarB 1) mNil)) (mBi dLen (mCons (mVarB 2) mNil))))) (mSeq (mFor (mArgs dEnum (mCons (mVar 1) mNil)) (bTup (bCons (bName 4) (bCons (bName 5) bNil))) (mSeq (mFor (mArgs dEnum (mCons (mVar 2) mNil)) (bTup (bCons (bName 6) (bCons (bName 7) bNil))) (mSeq (mStore 3 (mBin dMod (mBi dInt (mCons (mBin dAdd (mBin dIx (mVarB 3) (mBin dAdd (mVarB 4) (mVarB 6))) (mBin dMul (mVarB 5) (mVarB 7))) mNil)) (mVarB 0)) (mBin dAdd (mVarB 4) (mVarB 6))) (mNo 7 (mNo 6 mSkip)))) (mNo 7 (mNo 6 (mNo 5 (mNo 4 mSkip)))))) (mFrzS 3 (mRet (mCall 1 f_l_trimmed (mCons (mVar 3) mNil))))))
noncomputable def f_l_product : List D → R D := mFun 8 3 f_l_product_b
set_option maxRecDepth 100000 in
set_option maxHeartbeats 8000000 in
theorem b_l_product {P : Program} {w : World} {K : PySem.W.Frag} {mg : Str → Option Value} {base : Heap} (T : Bi mg) (G_l_trimmed : Cal P w K mg base 1 "_law_trimmed" 1 f_l_trimmed) : BodyOk P w K mg base n_l_product "_law_product" s_l_product 1 f_l_product_b := fun f cdv A outer s H E B hr tk pf => by
  have nd := sc_l_product.nd
  exact (css_cons (cs_own 3 nd (co_mul (cb (ce_frz (co_lst (ca_cons ce_int ca_nil)))) (cb (ce_add (cb (ce_len (cab_cons (cb_v 1) cab_nil) T.b_len)) (cb (ce_len (cab_cons (cb_v 2) cab_nil) T.b_len)))))) (css_cons (cs_for (ws := [4, 5]) pf rfl (ci_enum T.b_enumerate (ca_cons (ce_v 1) ca_nil)) (cg_tup rfl (cgs_cons (cg_name 4 nd) (cgs_cons (cg_name 5 nd) cgs_nil)) (bnS (bnS bn0))) (css_cons (cs_for (ws := [6, 7]) pf rfl (ci_enum T.b_enumerate (ca_cons (ce_v 2) ca_nil)) (cg_tup rfl (cgs_cons (cg_name 6 nd) (cgs_cons (cg_name 7 nd) cgs_nil)) (bnS (bnS bn0))) (css_cons (cs_store 3 (ce_mod (cb (ce_intc (cab_cons (cb (ce_add (cb (ce_ix (cb_v 3) (cb (ce_add (cb_v 4) (cb_v 6))))) (cb (ce_mul (cb_v 5) (cb_v 7))))) cab_nil) T.b_int)) (cb_v 0)) (pv 3) (cb (ce_add (cb_v 4) (cb_v 6)))) (css_no 7 (css_no 6 css_nil)))) (css_no 7 (css_no 6 (css_no 5 (css_no 4 css_nil)))))) (css_frz 3 (css_one (cs_ret (ce_call G_l_trimmed hr (by decide) tk (ca_cons (ce_v 3) ca_nil)))))))

/-! ## _law_key: 0 _law_p, 1 _law_polynomial, 2 _law_number, 3 _law_one -/
abbrev s_l_key : Stmt := top 20
abbrev n_l_key : List Str := ["_law_p", "_law_polynomial", "_law_number", "_law_one"]
theorem sc_l_key : FnScope n_l_key ["_law_p", "_law_polynomial"] (defScope s_l_key) := ⟨rfl, rfl, rfl, by decide +kernel, rfl, by decide +kernel, by decide +kernel⟩
def f_l_key_b : Rho → R Out := (mSeq (mSet 2 (mC (.int 0))) (mSeq (mFor (mIter (mRevA (mVarB 1))) (bName 3) (mSeq (mSet 2 (mBin dAdd (mBin dMul (mVarB 2) (mVarB 0)) (mVarB 3))) (mNo 3 mSkip))) (mRet (mTup (mCons (mBi dLen (mCons (mVarB 1) mNil)) (mCons (mVar 2) mNil))))))
def f_l_key : List D → R D := mFun 4 2 f_l_key_b
set_option maxRecDepth 100000 in
set_option maxHeartbeats 8000000 in
theorem b_l_key {P : Program} {w : World} {K : PySem.W.Frag} {mg : Str → Option Value} {base : Heap} (T : Bi mg) : BodyOk P w K mg base n_l_key "_law_key" s_l_key 0 f_l_key_b := fun f cdv A outer s H E B hr tk pf => by
  have nd := sc_l_key.nd
  exact (css_cons (cs_set 2 nd ce_int) (css_cons (cs_for (ws := [3]) pf rfl (ci_seq (ce_rev (cb_v 1))) (cg_name 3 nd) (css_cons (cs_set 2 nd (ce_add (cb (ce_mul (cb_v 2) (cb_v 0))) (cb_v 3))) (css_no 3 css_nil))) (css_one (cs_ret (ce_tup (ca_cons (ce_len (cab_cons (cb_v 1) cab_nil) T.b_len) (ca_cons (ce_v 2) ca_nil)))))))

/-! ## _law_moebius: 0 _law_number, 1 _law_found, 2 _law_less, 3 _law_least -/
abbrev s_l_moebius : Stmt := top 21
abbrev n_l_moebius : List Str := ["_law_number", "_law_found", "_law_less", "_law_least"]
theorem sc_l_moebius : FnScope n_l_moebius ["_law_number"] (defScope s_l_moebius) := ⟨rfl, rfl, rfl, by decide +kernel, rfl, by decide +kernel, by decide +kernel⟩
def f_l_moebius_b : Rho → R Out := (mSeq (mSet 1 (mC (.int 1))) (mSeq (mFor (mArgs dRange2 (mCons (mC (.int 2)) (mCons (mBin dAdd (mVarB 0) (mC (.int 1))) mNil))) (bName 2) (mSeq (mIf (mAndT (mTb (mBin dEq (mBin dMod (mBi dInt (mCons (mVarB 0) mNil)) (mVarB 2)) (mC (.int 0)))) (mTb (mBin dEq (mFrz (mComp [3] (mArgs dRange2 (mCons (mC (.int 2)) (mCons (mVar 2) mNil))) (bName 3) (mTb (mBin dEq (mBin dMod (mBi dInt (mCons (mVarB 2) mNil)) (mVarB 3)) (mC (.int 0)))) (mVar 3))) (mFrz (mLst mNil))))) (mSet 1 (mIfE (mTb (mBin dEq (mBin dMod (mBi dInt (mCons (mVarB 0) mNil)) (mBin dMul (mVarB 2) (mVarB 2))) (mC (.int 0)))) (mC (.int 0)) (mBin dSub (mC (.int 0)) (mVarB 1)))) mSkip) (mNo 2 mSkip))) (mRet (mVar 1))))
def f_l_moebius : List D → R D := mFun 4 1 f_l_moebius_b
set_option maxRecDepth 100000 in
set_option maxHeartbeats 8000000 in
theorem b_l_moebius {P : Program} {w : World} {K : PySem.W.Frag} {mg : Str → Option Value} {base : Heap} (T : Bi mg) : BodyOk P w K mg base n_l_moebius "_law_moebius" s_l_moebius 0 f_l_moebius_b := fun f cdv A outer s H E B hr tk pf => by
  have nd := sc_l_moebius.nd
  exact (css_cons (cs_set 1 nd ce_int) (css_cons (cs_for (ws := [2]) pf rfl (ci_range2 T.b_range (ca_cons ce_int (ca_cons (ce_add (cb_v 0) (cb ce_int)) ca_nil))) (cg_name 2 nd) (css_cons (cs_if (PW.pt (cw_and (ct_eq hr.room.units (cb (ce_mod (cb (ce_intc (cab_cons (cb_v 0) cab_nil) T.b_int)) (cb_v 2))) (cb ce_int)) (cw_and1 (ct_eq hr.room.units (cb (ce_frz (co_lc rfl nd ([("_law_least", 3)] : List (Str × Nat)) (ci_range2 T.b_range (ca_cons ce_int (ca_cons (ce_v 2) ca_nil))) (blkOk_by (N := n_l_moebius) (sc := defScope s_l_moebius) (by decide +kernel)) (fun _ _ _ _ _ => (cg_name 3 nd)) (fun _ _ _ _ _ => (pts_one (ct_eq hr.room.units (cb (ce_mod (cb (ce_intc (cab_cons (cb_v 2) cab_nil) T.b_int)) (cb_v 3))) (cb ce_int)))) (fun _ _ _ _ _ => (ce_v 3))))) (cb (ce_frz (co_lst ca_nil))))))) (css_one (cs_set 1 nd (ce_if (ct_eq hr.room.units (cb (ce_mod (cb (ce_intc (cab_cons (cb_v 0) cab_nil) T.b_int)) (cb (ce_mul (cb_v 2) (cb_v 2))))) (cb ce_int)) ce_int (ce_sub (cb ce_int) (cb_v 1))))) css_nil) (css_no 2 css_nil))) (css_one (cs_ret (ce_v 1)))))

/-! ## law: 0 _law_script, 1 _law_deal_here, 2 _law_p, 3 _law_most, 4 _law_whole, 5 _law_turn, 6 _law_factor, 7 _law_keys, 8 _law_degree, 9 _law_found, 10 _law_primes, 11 _law_divisors, 12 _law_count, 13 _law_told, 14 _law_back, 15 _law_number, 16 _law_less, 17 _law_each -/
abbrev s_law : Stmt := top 22
abbrev n_law : List Str := ["_law_script", "_law_deal_here", "_law_p", "_law_most", "_law_whole", "_law_turn", "_law_factor", "_law_keys", "_law_degree", "_law_found", "_law_primes", "_law_divisors", "_law_count", "_law_told", "_law_back", "_law_number", "_law_less", "_law_each"]
theorem sc_law : FnScope n_law ["_law_script"] (defScope s_law) := ⟨rfl, rfl, rfl, by decide +kernel, rfl, by decide +kernel, by decide +kernel⟩
noncomputable def f_law_b : Rho → R Out := (mSeq (mSet 2 (mCall 2 f_l_of (mCons (mVar 1) (mCons (mFrz (mLst (mCons (mC (.int 2)) (mCons (mC (.int 2)) (mCons (mC (.int 2)) (mCons (mC (.int 3)) (mCons (mC (.int 3)) (mCons (mC (.int 5)) (mCons (mC (.int 7)) (mCons (mC (.int 11)) (mCons (mC (.int 13)) (mCons (mC (.int 17)) (mCons (mC (.int 19)) (mCons (mC (.int 23)) (mCons (mC (.int 29)) (mCons (mC (.int 31)) (mCons (mC (.int 37)) (mCons (mC (.int 41)) (mCons (mC (.int 43)) (mCons (mC (.int 47)) mNil)))))))))))))))))))) mNil)))) (mSeq (mSet 3 (mBi dLen (mCons (mFrz (mComp [8] (mArgs dRange2 (mCons (mC (.int 1)) (mCons (mC (.int 12)) mNil))) (bName 8) (mTb (mBin dLe (mCall 2 f_l_power (mCons (mVar 2) (mCons (mVar 8) mNil))) (mC (.int 2401)))) (mVar 8))) mNil))) (mSeq (mSet 4 (mTup (mCons (mC (.int 1)) mNil))) (mSeq (mFor (mArgs dRange1 (mCons (mC (.int 4)) mNil)) (bName 5) (mSeq (mSet 8 (mCall 2 f_l_any (mCons (mVar 1) (mCons (mBin dAdd (mBi dMin2 (mCons (mVarB 3) (mCons (mC (.int 4)) mNil))) (mC (.int 1))) mNil)))) (mSeq (mIf (mTb (mBin dLe (mBin dAdd (mBin dSub (mBi dLen (mCons (mVarB 4) mNil)) (mC (.int 1))) (mVarB 8)) (mVarB 3))) (mSet 4 (mCall 3 f_l_product (mCons (mVar 2) (mCons (mVar 4) (mCons (mCall 3 f_l_monic (mCons (mVar 2) (mCons (mVar 8) (mCons (mCall 2 f_l_any (mCons (mVar 1) (mCons (mC (.int 100000)) mNil))) mNil)))) mNil))))) mSkip) (mNo 5 mSkip)))) (mSeq (mPar2 13 14 (mSh (mCallK [1, 0] 2 0 2 f_polynomial_factors mNil (mCons (mVar 4) (mCons (mVar 2) mNil)))) (mSh (mTup (mCons (mC (.int 1)) mNil)))) (mSeq (mFor (mIter (mVar 13)) (bName 6) (mSeq (mIf (mOrT (mNotT (mTt (mUn (dIsi "tuple") (mVarB 6)))) (mOrT (mTb (mBin dNe (mBin dIx (mVarB 6) (mUn dNeg (mC (.int 1)))) (mC (.int 1)))) (mNotT (mTt (mCall 2 f_l_is_prime (mCons (mVar 2) (mCons (mFrz (mSeqL (mCons (mVarB 6) mNil))) mNil))))))) (mRet (mC (.bl false))) mSkip) (mSet 14 (mCall 3 f_l_product (mCons (mVar 2) (mCons (mVar 14) (mCons (mVar 6) mNil))))))) (mSeq (mOwn 7 (mComp [6] (mIter (mVar 13)) (bName 6) mYes (mCall 2 f_l_key (mCons (mVar 2) (mCons (mVar 6) mNil))))) (mSeq (mIf (mOrT (mTb (mBin dNe (mBi dRepr (mCons (mVarB 14) mNil)) (mBi dRepr (mCons (mVarB 4) mNil)))) (mOrT (mNotT (mTt (mUn (dIsi "tuple") (mVarB 13)))) (mTb (mBin dNe (mVarB 7) (mBi dSortP (mCons (mVarB 7) mNil)))))) (mRet (mC (.bl false))) mSkip) (mSeq (mSet 8 (mBin dAdd (mC (.int 1)) (mCall 2 f_l_any (mCons (mVar 1) (mCons (mBi dLen (mCons (mFrz (mComp [8] (mArgs dRange2 (mCons (mC (.int 1)) (mCons (mC (.int 12)) mNil))) (bName 8) (mTb (mBin dLe (mCall 2 f_l_power (mCons (mVar 2) (mCons (mVar 8) mNil))) (mC (.int 49)))) (mVar 8))) mNil)) mNil))))) (mSeq (mOwn 9 (mComp [15] (mArgs dRange1 (mCons (mCall 2 f_l_power (mCons (mVar 2) (mCons (mVar 8) mNil))) mNil)) (bName 15) mYes (mCall 3 f_l_monic (mCons (mVar 2) (mCons (mVar 8) (mCons (mVar 15) mNil)))))) (mFrzS 9 (mSeq (mSet 10 (mTupC (mFrz (mComp [17] (mIter (mVar 9)) (bName 17) (mTt (mCall 2 f_l_is_prime (mCons (mVar 2) (mCons (mVar 17) mNil)))) (mTupC (mVarB 17)))))) (mSeq (mOwn 11 (mComp [16] (mArgs dRange2 (mCons (mC (.int 1)) (mCons (mBin dAdd (mVarB 8) (mC (.int 1))) mNil))) (bName 16) (mTb (mBin dEq (mBin dMod (mVarB 8) (mVarB 16)) (mC (.int 0)))) (mVar 16))) (mFrzS 11 (mSeq (mSet 12 (mBi dSum (mCons (mFrz (mComp [16] (mIter (mVar 11)) (bName 16) mYes (mBin dMul (mCall 1 f_l_moebius (mCons (mBin dDiv (mVarB 8) (mVarB 16)) mNil)) (mCall 2 f_l_power (mCons (mVar 2) (mCons (mVar 16) mNil)))))) mNil))) (mRet (mAndV (mBin dEq (mBi dRepr (mCons (mCallK [1, 0] 2 0 2 f_prime_polynomials mNil (mCons (mVar 8) (mCons (mVar 2) mNil))) mNil)) (mBi dRepr (mCons (mVarB 10) mNil))) (mBin dEq (mBin dMul (mVarB 8) (mBi dLen (mCons (mVarB 10) mNil))) (mVarB 12)))))))))))))))))))
set_option maxRecDepth 100000 in
set_option maxHeartbeats 8000000 in
theorem b_law {P : Program} {w : World} {K : PySem.W.Frag} {mg : Str → Option Value} {base : Heap} (T : Bi mg) (G_l_any : Cal P w K mg base 1 "_law_any" 2 f_l_any) (G_l_is_prime : Cal P w K mg base 2 "_law_is_prime" 2 f_l_is_prime) (G_l_key : Cal P w K mg base 1 "_law_key" 2 f_l_key) (G_l_moebius : Cal P w K mg base 1 "_law_moebius" 1 f_l_moebius) (G_l_monic : Cal P w K mg base 1 "_law_monic" 3 f_l_monic) (G_l_of : Cal P w K mg base 2 "_law_of" 2 f_l_of) (G_l_power : Cal P w K mg base 1 "_law_power" 2 f_l_power) (G_l_product : Cal P w K mg base 2 "_law_product" 3 f_l_product) (GK0_prime_polynomials : CalK P w K mg base 4 "prime_polynomials" ["degree", "p"] 0 [1, 0] 2 f_prime_polynomials) (GK1_polynomial_factors : CalK P w K mg base 3 "polynomial_factors" ["polynomial", "p"] 0 [1, 0] 2 f_polynomial_factors) : TailOk P w K mg base n_law "law" s_law 4 f_law_b := fun f cdv A outer s H E B hr tk pf => by
  have nd := sc_law.nd
  exact (css_cons (cs_set 2 nd (ce_call G_l_of hr (by decide) tk (ca_cons (ce_v 1) (ca_cons (ce_frz (co_lst (ca_cons ce_int (ca_cons ce_int (ca_cons ce_int (ca_cons ce_int (ca_cons ce_int (ca_cons ce_int (ca_cons ce_int (ca_cons ce_int (ca_cons ce_int (ca_cons ce_int (ca_cons ce_int (ca_cons ce_int (ca_cons ce_int (ca_cons ce_int (ca_cons ce_int (ca_cons ce_int (ca_cons ce_int (ca_cons ce_int ca_nil)))))))))))))))))))) ca_nil)))) (css_cons (cs_set 3 nd (ce_len (cab_cons (cb (ce_frz (co_lc rfl nd ([("_law_degree", 8)] : List (Str × Nat)) (ci_range2 T.b_range (ca_cons ce_int (ca_cons ce_int ca_nil))) (blkOk_by (N := n_law) (sc := defScope s_law) (by decide +kernel)) (fun _ _ _ _ _ => (cg_name 8 nd)) (fun _ _ _ _ _ => (pts_one (ct_le (cb (ce_call G_l_power hr (by decide) takes0 (ca_cons (ce_v 2) (ca_cons (ce_v 8) ca_nil)))) (cb ce_int)))) (fun _ _ _ _ _ => (ce_v 8))))) cab_nil) T.b_len)) (css_cons (cs_set 4 nd (ce_tup (ca_cons ce_int ca_nil))) (css_cons (cs_for (ws := [5]) pf rfl (ci_range1 T.b_range (ca_cons ce_int ca_nil)) (cg_name 5 nd) (css_cons (cs_set 8 nd (ce_call G_l_any hr (by decide) tk (ca_cons (ce_v 1) (ca_cons (ce_add (cb (ce_min2 (cab_cons (cb_v 3) (cab_cons (cb ce_int) cab_nil)) rfl T.b_min)) (cb ce_int)) ca_nil)))) (css_cons (cs_if (ct_le (cb (ce_add (cb (ce_sub (cb (ce_len (cab_cons (cb_v 4) cab_nil) T.b_len)) (cb ce_int))) (cb_v 8))) (cb_v 3)) (css_one (cs_set 4 nd (ce_call G_l_product hr (by decide) tk (ca_cons (ce_v 2) (ca_cons (ce_v 4) (ca_cons (ce_call G_l_monic hr (by decide) tk (ca_cons (ce_v 2) (ca_cons (ce_v 8) (ca_cons (ce_call G_l_any hr (by decide) tk (ca_cons (ce_v 1) (ca_cons ce_int ca_nil))) ca_nil)))) ca_nil)))))) css_nil) (css_no 5 css_nil)))) (css_cons (cs_par2 13 14 rfl nd (ck_sh (ce_callK0 GK1_polynomial_factors hr (by decide) tk (kw_cons (ce_v 4) (kw_cons (ce_v 2) kw_nil)))) (ck_sh (ce_tup (ca_cons ce_int ca_nil)))) (css_cons (cs_for (ws := [6]) pf rfl (ci_seq (ce_v 13)) (cg_name 6 nd) (css_cons (cs_if (PW.pt (cw_or (ct_not (ct_tru (cb (ce_isi "tuple" (cb_v 6) T.b_isinstance T.b_tuple)))) (cw_or (ct_ne hr.room.units (cb (ce_ix (cb_v 6) (cb (ce_neg (cb ce_int))))) (cb ce_int)) (cw_or1 (ct_not (ct_tru (cb (ce_call G_l_is_prime hr (by decide) tk (ca_cons (ce_v 2) (ca_cons (ce_frz (co_list (cab_cons (cb_v 6) cab_nil) T.b_list)) ca_nil)))))))))) (css_one (cs_ret ce_bl)) css_nil) (css_one (cs_set 14 nd (ce_call G_l_product hr (by decide) tk (ca_cons (ce_v 2) (ca_cons (ce_v 14) (ca_cons (ce_v 6) ca_nil)))))))) (css_cons (cs_lc 7 rfl nd ([("_law_factor", 6)] : List (Str × Nat)) (ci_seq (ce_v 13)) (blkOk_by (N := n_law) (sc := defScope s_law) (by decide +kernel)) (fun _ _ _ _ _ => (cg_name 6 nd)) (fun _ _ _ _ _ => ct_yes) (fun _ _ _ _ _ => (ce_call G_l_key hr (by decide) takes0 (ca_cons (ce_v 2) (ca_cons (ce_v 6) ca_nil))))) (css_cons (cs_if (PW.pt (cw_or (ct_ne hr.room.units (cb (ce_repr hr (cab_cons (cb_v 14) cab_nil) T.b_repr)) (cb (ce_repr hr (cab_cons (cb_v 4) cab_nil) T.b_repr))) (cw_or (ct_not (ct_tru (cb (ce_isi "tuple" (cb_v 13) T.b_isinstance T.b_tuple)))) (cw_or1 (ct_ne hr.room.units (cb_v 7) (cb (ce_sortP (cab_cons (cb_v 7) cab_nil) T.b_sorted))))))) (css_one (cs_ret ce_bl)) css_nil) (css_cons (cs_set 8 nd (ce_add (cb ce_int) (cb (ce_call G_l_any hr (by decide) tk (ca_cons (ce_v 1) (ca_cons (ce_len (cab_cons (cb (ce_frz (co_lc rfl nd ([("_law_degree", 8)] : List (Str × Nat)) (ci_range2 T.b_range (ca_cons ce_int (ca_cons ce_int ca_nil))) (blkOk_by (N := n_law) (sc := defScope s_law) (by decide +kernel)) (fun _ _ _ _ _ => (cg_name 8 nd)) (fun _ _ _ _ _ => (pts_one (ct_le (cb (ce_call G_l_power hr (by decide) takes0 (ca_cons (ce_v 2) (ca_cons (ce_v 8) ca_nil)))) (cb ce_int)))) (fun _ _ _ _ _ => (ce_v 8))))) cab_nil) T.b_len) ca_nil)))))) (css_cons (cs_lc 9 rfl nd ([("_law_number", 15)] : List (Str × Nat)) (ci_range1 T.b_range (ca_cons (ce_call G_l_power hr (by decide) tk (ca_cons (ce_v 2) (ca_cons (ce_v 8) ca_nil))) ca_nil)) (blkOk_by (N := n_law) (sc := defScope s_law) (by decide +kernel)) (fun _ _ _ _ _ => (cg_name 15 nd)) (fun _ _ _ _ _ => ct_yes) (fun _ _ _ _ _ => (ce_call G_l_monic hr (by decide) takes0 (ca_cons (ce_v 2) (ca_cons (ce_v 8) (ca_cons (ce_v 15) ca_nil)))))) (css_frz 9 (css_cons (cs_set 10 nd (ce_tuple (cb (ce_frz (co_lc rfl nd ([("_law_each", 17)] : List (Str × Nat)) (ci_seq (ce_v 9)) (blkOk_by (N := n_law) (sc := defScope s_law) (by decide +kernel)) (fun _ _ _ _ _ => (cg_name 17 nd)) (fun _ _ _ _ _ => (pts_one (ct_tru (cb (ce_call G_l_is_prime hr (by decide) takes0 (ca_cons (ce_v 2) (ca_cons (ce_v 17) ca_nil))))))) (fun _ _ _ _ _ => (ce_tuple (cb_v 17) T.b_tuple))))) T.b_tuple)) (css_cons (cs_lc 11 rfl nd ([("_law_less", 16)] : List (Str × Nat)) (ci_range2 T.b_range (ca_cons ce_int (ca_cons (ce_add (cb_v 8) (cb ce_int)) ca_nil))) (blkOk_by (N := n_law) (sc := defScope s_law) (by decide +kernel)) (fun _ _ _ _ _ => (cg_name 16 nd)) (fun _ _ _ _ _ => (pts_one (ct_eq hr.room.units (cb (ce_mod (cb_v 8) (cb_v 16))) (cb ce_int)))) (fun _ _ _ _ _ => (ce_v 16))) (css_frz 11 (css_cons (cs_set 12 nd (ce_sum (cab_cons (cb (ce_frz (co_lc rfl nd ([("_law_less", 16)] : List (Str × Nat)) (ci_seq (ce_v 11)) (blkOk_by (N := n_law) (sc := defScope s_law) (by decide +kernel)) (fun _ _ _ _ _ => (cg_name 16 nd)) (fun _ _ _ _ _ => ct_yes) (fun _ _ _ _ _ => (ce_mul (cb (ce_call G_l_moebius hr (by decide) takes0 (ca_cons (ce_div (cb_v 8) (cb_v 16)) ca_nil))) (cb (ce_call G_l_power hr (by decide) takes0 (ca_cons (ce_v 2) (ca_cons (ce_v 16) ca_nil))))))))) cab_nil) rfl T.b_sum)) (css_one (cs_ret (ce_and (ce_eq hr.room.units (cb (ce_repr hr (cab_cons (cb (ce_callK0 GK0_prime_polynomials hr (by decide) tk (kw_cons (ce_v 8) (kw_cons (ce_v 2) kw_nil)))) cab_nil) T.b_repr)) (cb (ce_repr hr (cab_cons (cb_v 10) cab_nil) T.b_repr))) (ce_one (ce_eq hr.room.units (cb (ce_mul (cb_v 8) (cb (ce_len (cab_cons (cb_v 10) cab_nil) T.b_len)))) (cb_v 12)))))))))))))))))))))
end K02
end Y
/-! # GB -/
set_option Elab.async false
set_option linter.all false
set_option maxRecDepth 100000
set_option maxHeartbeats 4000000
namespace Y
open PySem PySem.Spec L2
namespace K02
/-! ## all together -/
/-- every way out of the law is true (a structure: the elaborator must not run the text) -/
structure Md (t : R Out) : Prop where
  h : t.all (fun o => o = .ret (.bl true)) (fun _ => False)
section
variable {P : Program} {w : World} {K : PySem.W.Frag} {h base : Heap} {mg : Str → Option Value}
set_option maxRecDepth 100000 in
set_option maxHeartbeats 400000 in
theorem g_l_any (X : K.In h) (G : h.Ns mainGlobals mg) (T : Bi mg) (Ha : Has K "_law_any" s_l_any) : Cal P w K mg base 1 "_law_any" 2 f_l_any := by
  obtain ⟨_, _, g, F⟩ := Ha
  exact cal_any F sc_l_any rfl rfl (PySem.W.mg_of X G g) (F.binds (ps := ["_law_deal_here", "_law_bound"]) fun _ _ _ _ _ _ us hl => match us, hl with | [_, _], _ => rfl) (a_any T)
set_option maxRecDepth 100000 in
set_option maxHeartbeats 400000 in
theorem g_small_power (X : K.In h) (G : h.Ns mainGlobals mg) (T : Bi mg) (Ha : Has K "small_power" s_small_power) : Cal P w K mg base 1 "small_power" 2 f_small_power := by
  obtain ⟨_, _, g, F⟩ := Ha
  exact cal_y (N := n_small_power) (ps := ["base", "times"]) (mb := f_small_power_b) F sc_small_power (PySem.W.mg_of X G g) (F.binds (ps := ["base", "times"]) fun _ _ _ _ _ _ us hl => match us, hl with | [_, _], _ => rfl) (b_small_power T)
set_option maxRecDepth 100000 in
set_option maxHeartbeats 400000 in
theorem g_trimmed_off (X : K.In h) (G : h.Ns mainGlobals mg) (T : Bi mg) (Ha : Has K "trimmed_off" s_trimmed_off) : Cal P w K mg base 1 "trimmed_off" 1 f_trimmed_off := by
  obtain ⟨_, _, g, F⟩ := Ha
  exact cal_y (N := n_trimmed_off) (ps := ["values"]) (mb := f_trimmed_off_b) F sc_trimmed_off (PySem.W.mg_of X G g) (F.binds (ps := ["values"]) fun _ _ _ _ _ _ us hl => match us, hl with | [_], _ => rfl) (b_trimmed_off T)
set_option maxRecDepth 100000 in
set_option maxHeartbeats 400000 in
theorem g_polynomial_rest (X : K.In h) (G : h.Ns mainGlobals mg) (T : Bi mg) (Ha : Has K "polynomial_rest" s_polynomial_rest) (G_trimmed_off : Cal P w K mg base 1 "trimmed_off" 1 f_trimmed_off) : Cal P w K mg base 2 "polynomial_rest" 3 f_polynomial_rest := by
  obtain ⟨_, _, g, F⟩ := Ha
  exact cal_y (N := n_polynomial_rest) (ps := ["p", "one", "other"]) (mb := f_polynomial_rest_b) F sc_polynomial_rest (PySem.W.mg_of X G g) (F.binds (ps := ["p", "one", "other"]) fun _ _ _ _ _ _ us hl => match us, hl with | [_, _, _], _ => rfl) (b_polynomial_rest T G_trimmed_off)
set_option maxRecDepth 100000 in
set_option maxHeartbeats 400000 in
theorem g_numbered_polynomial (X : K.In h) (G : h.Ns mainGlobals mg) (T : Bi mg) (Ha : Has K "numbered_polynomial" s_numbered_polynomial) : Cal P w K mg base 1 "numbered_polynomial" 3 f_numbered_polynomial := by
  obtain ⟨_, _, g, F⟩ := Ha
  exact cal_y (N := n_numbered_polynomial) (ps := ["p", "degree", "number"]) (mb := f_numbered_polynomial_b) F sc_numbered_polynomial (PySem.W.mg_of X G g) (F.binds (ps := ["p", "degree", "number"]) fun _ _ _ _ _ _ us hl => match us, hl with | [_, _, _], _ => rfl) (b_numbered_polynomial T)
set_option maxRecDepth 100000 in
set_option maxHeartbeats 400000 in
theorem g_polynomial_factors (X : K.In h) (G : h.Ns mainGlobals mg) (T : Bi mg) (Ha : Has K "polynomial_factors" s_polynomial_factors) (G_numbered_polynomial : Cal P w K mg base 1 "numbered_polynomial" 3 f_numbered_polynomial) (G_polynomial_rest : Cal P w K mg base 2 "polynomial_rest" 3 f_polynomial_rest) (G_small_power : Cal P w K mg base 1 "small_power" 2 f_small_power) : Cal P w K mg base 3 "polynomial_factors" 2 f_polynomial_factors := by
  obtain ⟨_, _, g, F⟩ := Ha
  exact cal_y (N := n_polynomial_factors) (ps := ["p", "polynomial"]) (mb := f_polynomial_factors_b) F sc_polynomial_factors (PySem.W.mg_of X G g) (F.binds (ps := ["p", "polynomial"]) fun _ _ _ _ _ _ us hl => match us, hl with | [_, _], _ => rfl) (b_polynomial_factors T G_numbered_polynomial G_polynomial_rest G_small_power)
set_option maxRecDepth 100000 in
set_option maxHeartbeats 400000 in
theorem gGK1_polynomial_factors (X : K.In h) (G : h.Ns mainGlobals mg) (T : Bi mg) (Ha : Has K "polynomial_factors" s_polynomial_factors) (G_numbered_polynomial : Cal P w K mg base 1 "numbered_polynomial" 3 f_numbered_polynomial) (G_polynomial_rest : Cal P w K mg base 2 "polynomial_rest" 3 f_polynomial_rest) (G_small_power : Cal P w K mg base 1 "small_power" 2 f_small_power) : CalK P w K mg base 3 "polynomial_factors" ["polynomial", "p"] 0 [1, 0] 2 f_polynomial_factors := by
  obtain ⟨f, fd, g, F⟩ := Ha
  exact ⟨f, fd, ["p", "polynomial"], rfl, fn_y (N := n_polynomial_factors) (ps := ["p", "polynomial"]) (mb := f_polynomial_factors_b) F sc_polynomial_factors (b_polynomial_factors T G_numbered_polynomial G_polynomial_rest G_small_power), PySem.W.mg_of X G g, F.kp, kwTo_mk F fun _ _ _ _ _ _ us ws h1 h2 => match us, ws, h1, h2 with | [], [_, _], _, _ => rfl⟩
set_option maxRecDepth 100000 in
set_option maxHeartbeats 400000 in
theorem g_prime_polynomials (X : K.In h) (G : h.Ns mainGlobals mg) (T : Bi mg) (Ha : Has K "prime_polynomials" s_prime_polynomials) (G_numbered_polynomial : Cal P w K mg base 1 "numbered_polynomial" 3 f_numbered_polynomial) (G_polynomial_factors : Cal P w K mg base 3 "polynomial_factors" 2 f_polynomial_factors) (G_small_power : Cal P w K mg base 1 "small_power" 2 f_small_power) : Cal P w K mg base 4 "prime_polynomials" 2 f_prime_polynomials := by
  obtain ⟨_, _, g, F⟩ := Ha
  exact cal_y (N := n_prime_polynomials) (ps := ["p", "degree"]) (mb := f_prime_polynomials_b) F sc_prime_polynomials (PySem.W.mg_of X G g) (F.binds (ps := ["p", "degree"]) fun _ _ _ _ _ _ us hl => match us, hl with | [_, _], _ => rfl) (b_prime_polynomials T G_numbered_polynomial G_polynomial_factors G_small_power)
set_option maxRecDepth 100000 in
set_option maxHeartbeats 400000 in
theorem gGK0_prime_polynomials (X : K.In h) (G : h.Ns mainGlobals mg) (T : Bi mg) (Ha : Has K "prime_polynomials" s_prime_polynomials) (G_numbered_polynomial : Cal P w K mg base 1 "numbered_polynomial" 3 f_numbered_polynomial) (G_polynomial_factors : Cal P w K mg base 3 "polynomial_factors" 2 f_polynomial_factors) (G_small_power : Cal P w K mg base 1 "small_power" 2 f_small_power) : CalK P w K mg base 4 "prime_polynomials" ["degree", "p"] 0 [1, 0] 2 f_prime_polynomials := by
  obtain ⟨f, fd, g, F⟩ := Ha
  exact ⟨f, fd, ["p", "degree"], rfl, fn_y (N := n_prime_polynomials) (ps := ["p", "degree"]) (mb := f_prime_polynomials_b) F sc_prime_polynomials (b_prime_polynomials T G_numbered_polynomial G_polynomial_factors G_small_power), PySem.W.mg_of X G g, F.kp, kwTo_mk F fun _ _ _ _ _ _ us ws h1 h2 => match us, ws, h1, h2 with | [], [_, _], _, _ => rfl⟩
set_option maxRecDepth 100000 in
set_option maxHeartbeats 400000 in
theorem g_l_of (X : K.In h) (G : h.Ns mainGlobals mg) (T : Bi mg) (Ha : Has K "_law_of" s_l_of) (G_l_any : Cal P w K mg base 1 "_law_any" 2 f_l_any) : Cal P w K mg base 2 "_law_of" 2 f_l_of := by
  obtain ⟨_, _, g, F⟩ := Ha
  exact cal_y (N := n_l_of) (ps := ["_law_deal_here", "_law_some"]) (mb := f_l_of_b) F sc_l_of (PySem.W.mg_of X G g) (F.binds (ps := ["_law_deal_here", "_law_some"]) fun _ _ _ _ _ _ us hl => match us, hl with | [_, _], _ => rfl) (b_l_of T G_l_any)
set_option maxRecDepth 100000 in
set_option maxHeartbeats 400000 in
theorem g_l_power (X : K.In h) (G : h.Ns mainGlobals mg) (T : Bi mg) (Ha : Has K "_law_power" s_l_power) : Cal P w K mg base 1 "_law_power" 2 f_l_power := by
  obtain ⟨_, _, g, F⟩ := Ha
  exact cal_y (N := n_l_power) (ps := ["_law_base", "_law_times"]) (mb := f_l_power_b) F sc_l_power (PySem.W.mg_of X G g) (F.binds (ps := ["_law_base", "_law_times"]) fun _ _ _ _ _ _ us hl => match us, hl with | [_, _], _ => rfl) (b_l_power T)
set_option maxRecDepth 100000 in
set_option maxHeartbeats 400000 in
theorem g_l_monic (X : K.In h) (G : h.Ns mainGlobals mg) (T : Bi mg) (Ha : Has K "_law_monic" s_l_monic) : Cal P w K mg base 1 "_law_monic" 3 f_l_monic := by
  obtain ⟨_, _, g, F⟩ := Ha
  exact cal_y (N := n_l_monic) (ps := ["_law_p", "_law_degree", "_law_number"]) (mb := f_l_monic_b) F sc_l_monic (PySem.W.mg_of X G g) (F.binds (ps := ["_law_p", "_law_degree", "_law_number"]) fun _ _ _ _ _ _ us hl => match us, hl with | [_, _, _], _ => rfl) (b_l_monic T)
set_option maxRecDepth 100000 in
set_option maxHeartbeats 400000 in
theorem g_l_rest (X : K.In h) (G : h.Ns mainGlobals mg) (T : Bi mg) (Ha : Has K "_law_rest" s_l_rest) : Cal P w K mg base 1 "_law_rest" 3 f_l_rest := by
  obtain ⟨_, _, g, F⟩ := Ha
  exact cal_y (N := n_l_rest) (ps := ["_law_p", "_law_one", "_law_other"]) (mb := f_l_rest_b) F sc_l_rest (PySem.W.mg_of X G g) (F.binds (ps := ["_law_p", "_law_one", "_law_other"]) fun _ _ _ _ _ _ us hl => match us, hl with | [_, _, _], _ => rfl) (b_l_rest T)
set_option maxRecDepth 100000 in
set_option maxHeartbeats 400000 in
theorem g_l_is_prime (X : K.In h) (G : h.Ns mainGlobals mg) (T : Bi mg) (Ha : Has K "_law_is_prime" s_l_is_prime) (G_l_monic : Cal P w K mg base 1 "_law_monic" 3 f_l_monic) (G_l_power : Cal P w K mg base 1 "_law_power" 2 f_l_power) (G_l_rest : Cal P w K mg base 1 "_law_rest" 3 f_l_rest) : Cal P w K mg base 2 "_law_is_prime" 2 f_l_is_prime := by
  obtain ⟨_, _, g, F⟩ := Ha
  exact cal_y (N := n_l_is_prime) (ps := ["_law_p", "_law_polynomial"]) (mb := f_l_is_prime_b) F sc_l_is_prime (PySem.W.mg_of X G g) (F.binds (ps := ["_law_p", "_law_polynomial"]) fun _ _ _ _ _ _ us hl => match us, hl with | [_, _], _ => rfl) (b_l_is_prime T G_l_monic G_l_power G_l_rest)
set_option maxRecDepth 100000 in
set_option maxHeartbeats 400000 in
theorem g_l_trimmed (X : K.In h) (G : h.Ns mainGlobals mg) (T : Bi mg) (Ha : Has K "_law_trimmed" s_l_trimmed) : Cal P w K mg base 1 "_law_trimmed" 1 f_l_trimmed := by
  obtain ⟨_, _, g, F⟩ := Ha
  exact cal_y (N := n_l_trimmed) (ps := ["_law_values"]) (mb := f_l_trimmed_b) F sc_l_trimmed (PySem.W.mg_of X G g) (F.binds (ps := ["_law_values"]) fun _ _ _ _ _ _ us hl => match us, hl with | [_], _ => rfl) (b_l_trimmed T)
set_option maxRecDepth 100000 in
set_option maxHeartbeats 400000 in
theorem g_l_product (X : K.In h) (G : h.Ns mainGlobals mg) (T : Bi mg) (Ha : Has K "_law_product" s_l_product) (G_l_trimmed : Cal P w K mg base 1 "_law_trimmed" 1 f_l_trimmed) : Cal P w K mg base 2 "_law_product" 3 f_l_product := by
  obtain ⟨_, _, g, F⟩ := Ha
  exact cal_y (N := n_l_product) (ps := ["_law_p", "_law_one", "_law_other"]) (mb := f_l_product_b) F sc_l_product (PySem.W.mg_of X G g) (F.binds (ps := ["_law_p", "_law_one", "_law_other"]) fun _ _ _ _ _ _ us hl => match us, hl with | [_, _, _], _ => rfl) (b_l_product T G_l_trimmed)
set_option maxRecDepth 100000 in
set_option maxHeartbeats 400000 in
theorem g_l_key (X : K.In h) (G : h.Ns mainGlobals mg) (T : Bi mg) (Ha : Has K "_law_key" s_l_key) : Cal P w K mg base 1 "_law_key" 2 f_l_key := by
  obtain ⟨_, _, g, F⟩ := Ha
  exact cal_y (N := n_l_key) (ps := ["_law_p", "_law_polynomial"]) (mb := f_l_key_b) F sc_l_key (PySem.W.mg_of X G g) (F.binds (ps := ["_law_p", "_law_polynomial"]) fun _ _ _ _ _ _ us hl => match us, hl with | [_, _], _ => rfl) (b_l_key T)
set_option maxRecDepth 100000 in
set_option maxHeartbeats 400000 in
theorem g_l_moebius (X : K.In h) (G : h.Ns mainGlobals mg) (T : Bi mg) (Ha : Has K "_law_moebius" s_l_moebius) : Cal P w K mg base 1 "_law_moebius" 1 f_l_moebius := by
  obtain ⟨_, _, g, F⟩ := Ha
  exact cal_y (N := n_l_moebius) (ps := ["_law_number"]) (mb := f_l_moebius_b) F sc_l_moebius (PySem.W.mg_of X G g) (F.binds (ps := ["_law_number"]) fun _ _ _ _ _ _ us hl => match us, hl with | [_], _ => rfl) (b_l_moebius T)
set_option maxRecDepth 100000 in
set_option maxHeartbeats 400000 in
theorem gd_deal (X : K.In h) (G : h.Ns mainGlobals mg) (T : Bi mg) (Ha : Has K "_law_deal" s_l_deal) : ∃ f fd, FnG P w K mg base 1 f fd ["_law_script", "_law_base"] (spDeal K) ∧ mg "_law_deal" = some (.ref f) ∧ PySem.W.keepIn K (.ref f) = true ∧ Binds K fd ["_law_script", "_law_base"] [] := by
  obtain ⟨f, fd, g, F⟩ := Ha
  exact ⟨f, fd, fn_deal F sc_l_deal rfl rfl (a_deal T), PySem.W.mg_of X G g, F.kp, F.binds fun _ _ _ _ _ _ us hl => match us, hl with | [_, _], _ => rfl⟩
set_option maxRecDepth 100000 in
set_option maxHeartbeats 400000 in
theorem body_law : defBody s_law = (defBody s_law).headD (.Pass ⟨0, 0, 0, 0⟩) :: (defBody s_law).tail := rfl
set_option maxRecDepth 100000 in
set_option maxHeartbeats 400000 in
theorem first_law {fD : Addr} {fdD : FuncData} (GD : FnG P w K mg base 1 fD fdD ["_law_script", "_law_base"] (spDeal K)) (gD : mg "_law_deal" = some (.ref fD)) (kD : PySem.W.keepIn K (.ref fD) = true) (bD : Binds K fdD ["_law_script", "_law_base"] []) (f : Addr) (cdv : Value) (A : Around) (outer : List Env) (s : Shared) (H : Hp) (E : XK) (hr : RG 4 (cxF P w K mg base n_law "law" (defScope s_law) f cdv A outer s H E).A)
    (tk : Takes (cxF P w K mg base n_law "law" (defScope s_law) f cdv A outer s H E) (fun c o _ H => E c o H)) :
    PS (cxF P w K mg base n_law "law" (defScope s_law) f cdv A outer s H E) ((defBody s_law).headD (.Pass ⟨0, 0, 0, 0⟩)) (tAsg (tCallS (spDeal K) (WE fun c o _ H => E c o H) (tCons (tVar 0) (tCons (tC (.int 2)) tNil))) (gName 1)) :=
  ps_set (i := 1) sc_law.nd rfl (.inl rfl) (pe_callG GD (hr.mono (by decide)) rfl gD kD bD (fun σ => passAt tk σ) (pa_cons (pv 0) (pa_cons pe_int pa_nil)) rfl rfl rfl)
set_option maxRecDepth 100000 in
set_option maxHeartbeats 400000 in
theorem g_law (X : K.In h) (G : h.Ns mainGlobals mg) (T : Bi mg) {fD : Addr} {fdD : FuncData} (GD : FnG P w K mg base 1 fD fdD ["_law_script", "_law_base"] (spDeal K)) (gD : mg "_law_deal" = some (.ref fD)) (kD : PySem.W.keepIn K (.ref fD) = true) (bD : Binds K fdD ["_law_script", "_law_base"] []) (G_l_any : Cal P w K mg base 1 "_law_any" 2 f_l_any) (G_l_is_prime : Cal P w K mg base 2 "_law_is_prime" 2 f_l_is_prime) (G_l_key : Cal P w K mg base 1 "_law_key" 2 f_l_key) (G_l_moebius : Cal P w K mg base 1 "_law_moebius" 1 f_l_moebius) (G_l_monic : Cal P w K mg base 1 "_law_monic" 3 f_l_monic) (G_l_of : Cal P w K mg base 2 "_law_of" 2 f_l_of) (G_l_power : Cal P w K mg base 1 "_law_power" 2 f_l_power) (G_l_product : Cal P w K mg base 2 "_law_product" 3 f_l_product) (GK0_prime_polynomials : CalK P w K mg base 4 "prime_polynomials" ["degree", "p"] 0 [1, 0] 2 f_prime_polynomials) (GK1_polynomial_factors : CalK P w K mg base 3 "polynomial_factors" ["polynomial", "p"] 0 [1, 0] 2 f_polynomial_factors) {f : Addr} {fd : FuncData} (F : Fun K "law" "law" s_law f fd)
    (math : Md (f_law_b (.no :: .sh .deal :: List.replicate (n_law.length - 2) .no))) : FnG P w K mg base 5 f fd ["_law_script"] (spLaw K) :=
  law_y (bs := 2) (N := n_law) (ps := ["_law_script"]) (mb := f_law_b) F sc_law rfl (by decide) (by decide) (by decide) body_law (first_law GD gD kD bD) (b_law T G_l_any G_l_is_prime G_l_key G_l_moebius G_l_monic G_l_of G_l_power G_l_product GK0_prime_polynomials GK1_polynomial_factors) math.h
end
set_option maxRecDepth 100000 in
set_option maxHeartbeats 400000 in
theorem all_mk {l : PySem.W.OpenLaw} {w : World} {K : PySem.W.Frag} {h : Heap} {mg : Str → Option Value} {fa : Addr} (X : K.In h) (G : h.Ns mainGlobals mg) (hfa : mg "law" = some (.ref fa)) (H_law : Has K "law" s_law) (H_l_any : Has K "_law_any" s_l_any) (H_l_deal : Has K "_law_deal" s_l_deal) (H_small_power : Has K "small_power" s_small_power) (H_trimmed_off : Has K "trimmed_off" s_trimmed_off) (H_polynomial_rest : Has K "polynomial_rest" s_polynomial_rest) (H_numbered_polynomial : Has K "numbered_polynomial" s_numbered_polynomial) (H_polynomial_factors : Has K "polynomial_factors" s_polynomial_factors) (H_prime_polynomials : Has K "prime_polynomials" s_prime_polynomials) (H_l_of : Has K "_law_of" s_l_of) (H_l_power : Has K "_law_power" s_l_power) (H_l_monic : Has K "_law_monic" s_l_monic) (H_l_rest : Has K "_law_rest" s_l_rest) (H_l_is_prime : Has K "_law_is_prime" s_l_is_prime) (H_l_trimmed : Has K "_law_trimmed" s_l_trimmed) (H_l_product : Has K "_law_product" s_l_product) (H_l_key : Has K "_law_key" s_l_key) (H_l_moebius : Has K "_law_moebius" s_l_moebius) (z_abs : PySem.W.nsIn K mainGlobals "abs" = some none) (z_enumerate : PySem.W.nsIn K mainGlobals "enumerate" = some none) (z_int : PySem.W.nsIn K mainGlobals "int" = some none) (z_isinstance : PySem.W.nsIn K mainGlobals "isinstance" = some none) (z_len : PySem.W.nsIn K mainGlobals "len" = some none) (z_list : PySem.W.nsIn K mainGlobals "list" = some none) (z_max : PySem.W.nsIn K mainGlobals "max" = some none) (z_min : PySem.W.nsIn K mainGlobals "min" = some none) (z_range : PySem.W.nsIn K mainGlobals "range" = some none) (z_repr : PySem.W.nsIn K mainGlobals "repr" = some none) (z_sorted : PySem.W.nsIn K mainGlobals "sorted" = some none) (z_sum : PySem.W.nsIn K mainGlobals "sum" = some none) (z_tuple : PySem.W.nsIn K mainGlobals "tuple" = some none)
    (math : Md (f_law_b (.no :: .sh .deal :: List.replicate (n_law.length - 2) .no))) :
    ∃ fd : FuncData, (∀ (s : Shared) (u : Value), BindsTo s fd ⟨[u], []⟩ [("_law_script", u)]) ∧ ∀ base : Heap, K.In base → base.Ns mainGlobals mg → FnG l.prog w K mg base 5 fa fd ["_law_script"] (spLaw K) := by
  have T : Bi mg := ⟨PySem.W.mg_none_of X G z_abs, PySem.W.mg_none_of X G z_enumerate, PySem.W.mg_none_of X G z_int, PySem.W.mg_none_of X G z_isinstance, PySem.W.mg_none_of X G z_len, PySem.W.mg_none_of X G z_list, PySem.W.mg_none_of X G z_max, PySem.W.mg_none_of X G z_min, PySem.W.mg_none_of X G z_range, PySem.W.mg_none_of X G z_repr, PySem.W.mg_none_of X G z_sorted, PySem.W.mg_none_of X G z_sum, PySem.W.mg_none_of X G z_tuple⟩
  obtain ⟨f, fd, g, F⟩ := H_law
  cases hfa.symm.trans (PySem.W.mg_of X G g)
  refine ⟨fd, fun s u => F.bind1 (fun _ _ _ _ _ _ _ => rfl) s u, fun base _ _ => ?_⟩
  have G_l_any := g_l_any (P := l.prog) (w := w) (base := base) X G T H_l_any
  have G_small_power := g_small_power (P := l.prog) (w := w) (base := base) X G T H_small_power
  have G_trimmed_off := g_trimmed_off (P := l.prog) (w := w) (base := base) X G T H_trimmed_off
  have G_polynomial_rest := g_polynomial_rest (P := l.prog) (w := w) (base := base) X G T H_polynomial_rest G_trimmed_off
  have G_numbered_polynomial := g_numbered_polynomial (P := l.prog) (w := w) (base := base) X G T H_numbered_polynomial
  have G_polynomial_factors := g_polynomial_factors (P := l.prog) (w := w) (base := base) X G T H_polynomial_factors G_numbered_polynomial G_polynomial_rest G_small_power
  have GK1_polynomial_factors := gGK1_polynomial_factors (P := l.prog) (w := w) (base := base) X G T H_polynomial_factors G_numbered_polynomial G_polynomial_rest G_small_power
  have G_prime_polynomials := g_prime_polynomials (P := l.prog) (w := w) (base := base) X G T H_prime_polynomials G_numbered_polynomial G_polynomial_factors G_small_power
  have GK0_prime_polynomials := gGK0_prime_polynomials (P := l.prog) (w := w) (base := base) X G T H_prime_polynomials G_numbered_polynomial G_polynomial_factors G_small_power
  have G_l_of := g_l_of (P := l.prog) (w := w) (base := base) X G T H_l_of G_l_any
  have G_l_power := g_l_power (P := l.prog) (w := w) (base := base) X G T H_l_power
  have G_l_monic := g_l_monic (P := l.prog) (w := w) (base := base) X G T H_l_monic
  have G_l_rest := g_l_rest (P := l.prog) (w := w) (base := base) X G T H_l_rest
  have G_l_is_prime := g_l_is_prime (P := l.prog) (w := w) (base := base) X G T H_l_is_prime G_l_monic G_l_power G_l_rest
  have G_l_trimmed := g_l_trimmed (P := l.prog) (w := w) (base := base) X G T H_l_trimmed
  have G_l_product := g_l_product (P := l.prog) (w := w) (base := base) X G T H_l_product G_l_trimmed
  have G_l_key := g_l_key (P := l.prog) (w := w) (base := base) X G T H_l_key
  have G_l_moebius := g_l_moebius (P := l.prog) (w := w) (base := base) X G T H_l_moebius
  obtain ⟨fD, fdD, GD, gD, kD, bD⟩ := gd_deal (P := l.prog) (w := w) (base := base) X G T H_l_deal
  exact g_law X G T GD gD kD bD G_l_any G_l_is_prime G_l_key G_l_moebius G_l_monic G_l_of G_l_power G_l_product GK0_prime_polynomials GK1_polynomial_factors F math
end K02
end Y
/-! # P1 -/
set_option Elab.async false
set_option linter.all false
set_option maxRecDepth 100000
set_option maxHeartbeats 1000000
/-! polynomials with int coefficients, the constant first; told by their values -/
namespace Po
def ev : List Int → Int → Int
  | [], _ => 0
  | a :: l, x => a + x * ev l x
def co (l : List Int) (i : Nat) : Int := l.getD i 0
def add : List Int → List Int → List Int
  | [], b => b
  | a :: l, [] => a :: l
  | a :: l, b :: m => (a + b) :: add l m
def scl (c : Int) (l : List Int) : List Int := l.map (c * ·)
def mul : List Int → List Int → List Int
  | [], _ => []
  | a :: l, b => add (scl a b) (0 :: mul l b)
theorem ev_add : ∀ (a b : List Int) (x : Int), ev (add a b) x = ev a x + ev b x
  | [], b, x => by simp [add, ev]
  | a :: l, [], x => by simp [add, ev]
  | a :: l, b :: m, x => by
    simp only [add, ev, ev_add l m x]
    grind
theorem ev_scl (c : Int) : ∀ (l : List Int) (x : Int), ev (scl c l) x = c * ev l x
  | [], x => by simp [scl, ev]
  | a :: l, x => by
    have := ev_scl c l x
    unfold scl at this ⊢
    simp only [List.map_cons, ev, this]
    grind
theorem ev_mul : ∀ (a b : List Int) (x : Int), ev (mul a b) x = ev a x * ev b x
  | [], b, x => by simp [mul, ev]
  | a :: l, b, x => by
    simp only [mul, ev_add, ev_scl, ev, ev_mul l b x]
    grind
theorem ev_app : ∀ (a b : List Int) (x : Int), ev (a ++ b) x = ev a x + x ^ a.length * ev b x
  | [], b, x => by simp [ev]
  | a :: l, b, x => by
    simp only [List.cons_append, ev, ev_app l b x, List.length_cons, Int.pow_succ]
    grind
theorem ev_zeros (n : Nat) (x : Int) : ev (List.replicate n 0) x = 0 := by
  induction n with
  | zero => rfl
  | succ n ih => rw [List.replicate_succ, ev, ih, Int.mul_zero, Int.add_zero]
theorem ev_set : ∀ (l : List Int) (i : Nat) (v x : Int), i < l.length → ev (l.set i v) x = ev l x + (v - co l i) * x ^ i
  | a :: l, 0, v, x, h => by
    simp only [List.set_cons_zero, ev, co, List.getD_cons_zero, Int.pow_zero]
    grind
  | a :: l, i + 1, v, x, h => by
    have := ev_set l i v x (by simpa using h)
    have hc : co (a :: l) (i + 1) = co l i := rfl
    simp only [List.set_cons_succ, ev, this, hc, Int.pow_succ]
    grind
theorem zero_of : ∀ l : List Int, (∀ x, x ≠ 0 → ev l x = 0) → ∀ c ∈ l, c = 0
  | [], _, c, hc => absurd hc List.not_mem_nil
  | a :: l, h, c, hc => by
    have ha : a = 0 := by
      have hx : ((a.natAbs : Int) + 1) ≠ 0 := by omega
      have e := h _ hx
      unfold ev at e
      have hd : ((a.natAbs : Int) + 1) ∣ a := ⟨- ev l ((a.natAbs : Int) + 1), by grind⟩
      have hz : a.natAbs < ((a.natAbs : Int) + 1).natAbs := by omega
      exact Int.eq_zero_of_dvd_of_natAbs_lt_natAbs hd hz
    rcases List.mem_cons.mp hc with z | z
    · rw [z, ha]
    · refine zero_of l (fun x hx => ?_) c z
      have e := h x hx
      unfold ev at e
      rw [ha, Int.zero_add] at e
      rcases Int.mul_eq_zero.mp e with y | y
      · exact absurd y hx
      · exact y
theorem co_add : ∀ (a b : List Int) (i : Nat), co (add a b) i = co a i + co b i
  | [], b, i => by simp [add, co]
  | a :: l, [], i => by simp [add, co]
  | a :: l, b :: m, 0 => by simp [add, co]
  | a :: l, b :: m, i + 1 => by
    have := co_add l m i
    simpa [add, co] using this
theorem co_scl (c : Int) : ∀ (l : List Int) (i : Nat), co (scl c l) i = c * co l i
  | [], i => by simp [scl, co]
  | a :: l, 0 => by simp [scl, co]
  | a :: l, i + 1 => by
    have := co_scl c l i
    simpa [scl, co] using this
theorem co_big {l : List Int} {i : Nat} (h : l.length ≤ i) : co l i = 0 := by
  unfold co
  rw [List.getD_eq_getElem?_getD, List.getElem?_eq_none h]
  rfl
theorem co_get {l : List Int} {i : Nat} (h : i < l.length) : co l i = l[i] := by
  unfold co
  rw [List.getD_eq_getElem?_getD, List.getElem?_eq_getElem h]
  rfl
theorem co_zero {l : List Int} (h : ∀ c ∈ l, c = 0) (i : Nat) : co l i = 0 := by
  by_cases hi : i < l.length
  · rw [co_get hi]; exact h _ (List.getElem_mem hi)
  · exact co_big (by omega)
theorem len_add : ∀ (a b : List Int), (add a b).length = max a.length b.length
  | [], b => by simp [add]
  | a :: l, [] => by simp [add]
  | a :: l, b :: m => by
    simp only [add, List.length_cons, len_add l m]
    omega
theorem len_scl (c : Int) (l : List Int) : (scl c l).length = l.length := by simp [scl]
theorem len_mul {m : Nat} : ∀ (a b : List Int), b.length = m + 1 → (mul a b).length ≤ a.length + m
  | [], b, h => by simp [mul]
  | a :: l, b, h => by
    have := len_mul l b h
    simp only [mul, len_add, len_scl, List.length_cons]
    omega
/-- equal values: the coefficients differ by multiples of p -/
theorem co_of {p : Int} {f g h : List Int} (e : ∀ x, ev f x = ev g x + p * ev h x) (i : Nat) : co f i = co g i + p * co h i := by
  have z := zero_of (add f (add (scl (-1) g) (scl (-p) h))) (fun x _ => by
    rw [ev_add, ev_add, ev_scl, ev_scl, e x]
    grind)
  have y := co_zero z i
  rw [co_add, co_add, co_scl, co_scl] at y
  grind
/-- f is q times g and r, by p -/
def Dv (p : Int) (g f : List Int) : Prop := ∃ q h, ∀ x, ev f x = ev q x * ev g x + p * ev h x
theorem Dv.trans {p : Int} {a b c : List Int} (h1 : Dv p a b) (h2 : Dv p b c) : Dv p a c := by
  obtain ⟨q1, k1, e1⟩ := h1
  obtain ⟨q2, k2, e2⟩ := h2
  refine ⟨mul q2 q1, add (mul q2 k1) k2, fun x => ?_⟩
  rw [ev_mul, ev_add, ev_mul, e2 x, e1 x]
  grind
theorem Dv.refl (p : Int) (a : List Int) : Dv p a a := ⟨[1], [], fun x => by simp [ev]⟩
/-- a multiple of a monic one that is short: its coefficients are multiples of p -/
theorem short_zero {p : Int} {g : List Int} {m : Nat} (hg : g.length = m + 1) (h1 : co g m = 1) : ∀ (n : Nat) (s r h : List Int), s.length = n → r.length ≤ m → (∀ x, ev r x = ev s x * ev g x + p * ev h x) → ∀ i, ∃ k, co r i = p * k := by
  intro n
  induction n with
  | zero =>
    intro s r h hs hr e i
    have : s = [] := List.eq_nil_of_length_eq_zero hs
    subst this
    have e2 : ∀ x, ev r x = ev [] x + p * ev h x := fun x => by rw [e x]; simp [ev]
    refine ⟨co h i, ?_⟩
    rw [co_of e2 i]
    simp [co]
  | succ n ih =>
    intro s r h hs hr e
    rcases List.eq_nil_or_concat s with z | ⟨s', c, z⟩
    · rw [z] at hs; cases hs
    · rw [List.concat_eq_append] at z
      subst z
      have ln : s'.length = n := by simpa using hs
      -- the top coefficient
      have e2 : ∀ x, ev r x = ev (add (mul s' g) (List.replicate n 0 ++ scl c g)) x + p * ev h x := fun x => by
        rw [e x, ev_app, ev_add, ev_mul, ev_app, ev_zeros, ev_scl, ln, List.length_replicate]
        simp only [ev]
        grind
      have top := co_of e2 (n + m)
      rw [co_big (by omega), co_add, co_big (Nat.le_trans (len_mul s' g hg) (by omega))] at top
      have ct : co (List.replicate n 0 ++ scl c g) (n + m) = c := by
        unfold co
        rw [List.getD_eq_getElem?_getD, List.getElem?_append_right (by simp), List.length_replicate, Nat.add_sub_cancel_left]
        have := co_scl c g m
        rw [h1, Int.mul_one] at this
        unfold co at this
        rw [List.getD_eq_getElem?_getD] at this
        exact this
      rw [ct] at top
      refine ih s' r (add h (List.replicate n 0 ++ scl (- co h (n + m)) g)) ln hr fun x => ?_
      rw [e x, ev_app, ev_add, ev_app, ev_zeros, ev_scl, ln, List.length_replicate]
      simp only [ev]
      grind
/-- what is left of a division by a monic one -/
theorem rest_zero {p : Int} {g f q r h : List Int} {m : Nat} (hg : g.length = m + 1) (h1 : co g m = 1) (hr : r.length ≤ m) (e : ∀ x, ev f x = ev q x * ev g x + ev r x + p * ev h x) (d : Dv p g f) : ∀ i, ∃ k, co r i = p * k := by
  obtain ⟨q', h', e'⟩ := d
  refine short_zero hg h1 _ (add q' (scl (-1) q)) r (add h' (scl (-1) h)) rfl hr fun x => ?_
  have a := e x
  rw [e' x] at a
  rw [ev_add, ev_add, ev_scl, ev_scl]
  grind
/-- coefficients from 0 to p - 1 -/
def Rd (p : Int) (l : List Int) : Prop := ∀ c ∈ l, 0 ≤ c ∧ c < p
theorem Rd.co {p : Int} {l : List Int} (h : Rd p l) (h0 : 0 < p) (i : Nat) : 0 ≤ Po.co l i ∧ Po.co l i < p := by
  by_cases hi : i < l.length
  · rw [co_get hi]; exact h _ (List.getElem_mem hi)
  · rw [co_big (by omega)]; omega
theorem small_zero {p c k : Int} (h0 : 0 ≤ c) (h1 : c < p) (e : c = p * k) : c = 0 := by
  have hd : p ∣ c := ⟨k, e⟩
  exact Int.eq_zero_of_dvd_of_natAbs_lt_natAbs hd (by omega)
theorem Dv.rest {p : Int} {g f q r h : List Int} {m : Nat} (hp : 0 < p) (hg : g.length = m + 1) (h1 : co g m = 1) (hr : r.length ≤ m) (rr : Rd p r) (e : ∀ x, ev f x = ev q x * ev g x + ev r x + p * ev h x) (d : Dv p g f) : ∀ c ∈ r, c = 0 := by
  intro c hc
  obtain ⟨i, hi, rfl⟩ := List.mem_iff_getElem.mp hc
  obtain ⟨k, ek⟩ := rest_zero hg h1 hr e d i
  rw [co_get hi] at ek
  exact small_zero (rr _ hc).1 (rr _ hc).2 ek
theorem ev_zero {r : List Int} (h : ∀ c ∈ r, c = 0) (x : Int) : ev r x = 0 := by
  induction r with
  | nil => rfl
  | cons a l ih => rw [ev, ih fun c hc => h c (List.mem_cons_of_mem _ hc), h a List.mem_cons_self]; simp
theorem Dv.of_rest {p : Int} {g f q r h : List Int} (e : ∀ x, ev f x = ev q x * ev g x + ev r x + p * ev h x) (z : ∀ c ∈ r, c = 0) : Dv p g f := ⟨q, h, fun x => by rw [e x, ev_zero z]; grind⟩
/-- two reduced rows of one length with the same values by p -/
theorem same_of {p : Int} {f g h : List Int} (hp : 0 < p) (rf : Rd p f) (rg : Rd p g) (hl : f.length = g.length) (e : ∀ x, ev f x = ev g x + p * ev h x) : f = g := by
  apply List.ext_getElem hl
  intro i h1 h2
  have a := co_of e i
  have b := rf.co hp i
  have c := rg.co hp i
  rw [co_get h1] at a b
  rw [co_get h2] at a c
  have : f[i] - g[i] = 0 := by
    have hd : p ∣ f[i] - g[i] := ⟨co h i, by omega⟩
    exact Int.eq_zero_of_dvd_of_natAbs_lt_natAbs hd (by omega)
  omega
/-- reduced, the last one 1 -/
structure Mo (p : Int) (l : List Int) : Prop where
  rd : Rd p l
  ne : l ≠ []
  top : co l (l.length - 1) = 1
theorem Mo.len {p : Int} {l : List Int} (h : Mo p l) : l.length = (l.length - 1) + 1 := by
  have := List.length_pos_iff.mpr h.ne
  omega
/-- monic, reduced, the same values by p: the same row -/
theorem Mo.same {p : Int} {f g h : List Int} (hp : 1 < p) (mf : Mo p f) (mg : Mo p g) (e : ∀ x, ev f x = ev g x + p * ev h x) : f = g := by
  have lf := mf.len
  have lg := mg.len
  have key : ∀ {a b : List Int} {h : List Int}, Mo p a → Mo p b → (∀ x, ev a x = ev b x + p * ev h x) → ¬ b.length < a.length := fun {a b h} ma mb e hlt => by
    have t := co_of e (a.length - 1)
    have la := ma.len
    rw [ma.top, co_big (by omega), Int.zero_add] at t
    have hd : p ∣ 1 := ⟨_, t⟩
    have := Int.le_of_dvd (by decide) hd
    omega
  have h1 := key mf mg e
  have h2 := key mg mf (h := scl (-1) h) fun x => by rw [ev_scl, e x]; grind
  exact same_of (by omega) mf.rd mg.rd (by omega) e
/-- a monic row is no multiple of a longer one -/
theorem Dv.len {p : Int} {g f : List Int} (hp : 1 < p) (mg : Mo p g) (mf : Mo p f) (d : Dv p g f) : g.length ≤ f.length := by
  apply Classical.byContradiction
  intro hlt
  have lg := mg.len
  have lf := mf.len
  obtain ⟨k, ek⟩ := rest_zero (q := []) (r := f) (h := []) lg mg.top (by omega) (fun x => by simp [ev]) d (f.length - 1)
  rw [mf.top] at ek
  have hd : p ∣ 1 := ⟨k, ek⟩
  have := Int.le_of_dvd (by decide) hd
  omega
end Po
/-! # P2 -/
set_option Elab.async false
set_option linter.all false
set_option maxRecDepth 100000
set_option maxHeartbeats 1000000
namespace Y
/-! ### runs without draws, step by step -/
/-- it ends, with an outcome of this kind -/
def Go (m : Rho → R Out) (ρ : Rho) (P : Out → Prop) : Prop := ∃ o, m ρ = .ok o ∧ P o
theorem grd_ok {α : Type} {p : Prop} [Decidable p] {t : R α} (h : p) : R.grd p t = t := if_pos h
section
variable {a b body : Rho → R Out} {ρ : Rho} {P : Out → Prop} {i j : Nat}
theorem Go.seq (h : Go a ρ fun o => ∃ ρ', o = .next ρ' ∧ Go b ρ' P) : Go (mSeq a b) ρ P := by
  obtain ⟨o, e, ρ', rfl, o2, e2, h2⟩ := h
  refine ⟨o2, ?_, h2⟩
  unfold mSeq
  rw [e]
  exact e2
theorem Go.seqr (h : Go a ρ fun o => (∃ ρ', o = .next ρ' ∧ Go b ρ' P) ∨ (∃ d, o = .ret d ∧ P (.ret d))) : Go (mSeq a b) ρ P := by
  obtain ⟨o, e, h⟩ := h
  rcases h with ⟨ρ', rfl, o2, e2, h2⟩ | ⟨d, rfl, h2⟩
  · refine ⟨o2, ?_, h2⟩
    unfold mSeq
    rw [e]
    exact e2
  · refine ⟨_, ?_, h2⟩
    unfold mSeq
    rw [e]
    rfl
theorem Go.set {m : Rho → R D} {d : D} (h : m ρ = .ok d) (k : P (.next (ρ.set i (.sh d)))) : Go (mSet i m) ρ P := ⟨_, by unfold mSet; rw [h]; rfl, k⟩
theorem Go.own {m : Rho → R (List D)} {ds : List D} (h : m ρ = .ok ds) (k : P (.next (ρ.set i (.ow ds)))) : Go (mOwn i m) ρ P := ⟨_, by unfold mOwn; rw [h]; rfl, k⟩
theorem Go.ret {m : Rho → R D} {d : D} (h : m ρ = .ok d) (k : P (.ret d)) : Go (mRet m) ρ P := ⟨_, by unfold mRet; rw [h]; rfl, k⟩
theorem Go.skip (k : P (.next ρ)) : Go mSkip ρ P := ⟨_, rfl, k⟩
theorem Go.no (h : Go a (ρ.set i .no) P) : Go (mNo i a) ρ P := h
theorem Go.ifT {t : Rho → R Bool} (h : t ρ = .ok true) (k : Go a ρ P) : Go (mIf t a b) ρ P := by
  obtain ⟨o, e, k⟩ := k
  exact ⟨o, by unfold mIf; rw [h]; exact e, k⟩
theorem Go.ifF {t : Rho → R Bool} (h : t ρ = .ok false) (k : Go b ρ P) : Go (mIf t a b) ρ P := by
  obtain ⟨o, e, k⟩ := k
  exact ⟨o, by unfold mIf; rw [h]; exact e, k⟩
theorem Go.frz {ds : List D} (e : ρ[i]? = some (.ow ds)) (h : Go a (ρ.set i (.sh (.lst ds))) P) : Go (mFrzS i a) ρ P := by
  obtain ⟨o, e2, k⟩ := h
  exact ⟨o, by unfold mFrzS; rw [e]; exact e2, k⟩
theorem Go.aug {f : D → D → R D} {m : Rho → R D} {d y z : D} (e : ρ[i]? = some (.sh d)) (h : m ρ = .ok y) (h2 : f d y = .ok z) (k : P (.next (ρ.set i (.sh z)))) : Go (mAug i f m) ρ P := ⟨_, by unfold mAug withSh; rw [e]; show lift ρ (m ρ) _ = _; rw [h, lift_ok, h2]; rfl, k⟩
theorem Go.app {m : Rho → R D} {ds : List D} {d : D} (e : ρ[i]? = some (.ow ds)) (h : m ρ = .ok d) (hl : ds.length < 16777216) (k : P (.next (ρ.set i (.ow (ds ++ [d]))))) : Go (mApp i m) ρ P := ⟨_, by unfold mApp withOw; rw [e]; show lift ρ (m ρ) _ = _; rw [h, lift_ok, grd_ok hl], k⟩
theorem Go.store {mv mi : Rho → R D} {ds : List D} {v : D} {j : Int} {n : Nat} (e : ρ[i]? = some (.ow ds)) (h : mv ρ = .ok v) (h2 : mi ρ = .ok (.int j)) (h3 : L2.ixN ds.length j = some n) (k : P (.next (ρ.set i (.ow (ds.set n v))))) : Go (mStore i mv mi) ρ P :=
  ⟨_, by unfold mStore withOw; rw [e]; show lift ρ (mv ρ) _ = _; rw [h, lift_ok, h2, lift_ok]; show (match L2.ixN ds.length j with | some n => _ | none => _) = _; rw [h3], k⟩
theorem Go.popS {ds : List D} {d : D} (e : ρ[i]? = some (.ow ds)) (h : ds[ds.length - 1]? = some d) (k : P (.next (ρ.set i (.ow ds.dropLast)))) : Go (mPopS i) ρ P := ⟨_, by unfold mPopS withOw; rw [e]; show (match ds[ds.length - 1]? with | some _ => _ | none => _) = _; rw [h], k⟩
theorem Go.par2 {ma mb : Rho → R Sl} {x y : Sl} (h : ma ρ = .ok x) (h2 : mb ρ = .ok y) (k : P (.next ((ρ.set i x).set j y))) : Go (mPar2 i j ma mb) ρ P := ⟨_, by unfold mPar2; rw [h, lift_ok, h2, lift_ok], k⟩
theorem Go.par3 {l : Nat} {ma mb mc : Rho → R Sl} {x y z : Sl} (h : ma ρ = .ok x) (h2 : mb ρ = .ok y) (h3 : mc ρ = .ok z) (k : P (.next (((ρ.set i x).set j y).set l z))) : Go (mPar3 i j l ma mb mc) ρ P := ⟨_, by unfold mPar3; rw [h, lift_ok, h2, lift_ok, h3, lift_ok], k⟩
theorem Go.asg {bd : Bnd} {m : Rho → R D} {d : D} {ρ' : Rho} (h : m ρ = .ok d) (h2 : bd d ρ = some ρ') (k : P (.next ρ')) : Go (mAsg bd m) ρ P := ⟨_, by unfold mAsg; rw [h, lift_ok]; show (match bd d ρ with | some _ => _ | none => _) = _; rw [h2], k⟩
theorem fLoop_go {bb : D → Rho → R Out} (I : Nat → Rho → Prop) (J : D → Prop) : ∀ (xs : List D) (n : Nat) (ρ : Rho), (∀ i x ρ, xs[i]? = some x → I (n + i) ρ → ∃ o, bb x ρ = .ok o ∧ ((∃ ρ', o = .next ρ' ∧ I (n + i + 1) ρ') ∨ (∃ d, o = .ret d ∧ J d))) → I n ρ →
    ∃ o, fLoop bb xs ρ = .ok o ∧ ((∃ ρ', o = .next ρ' ∧ I (n + xs.length) ρ') ∨ (∃ d, o = .ret d ∧ J d))
  | [], n, ρ, _, h0 => ⟨_, rfl, .inl ⟨ρ, rfl, h0⟩⟩
  | x :: xs, n, ρ, hs, h0 => by
    obtain ⟨o, e, h⟩ := hs 0 x ρ rfl h0
    rcases h with ⟨ρ', rfl, h⟩ | ⟨d, rfl, h⟩
    · obtain ⟨o2, e2, k⟩ := fLoop_go I J xs (n + 1) ρ' (fun i y ρ2 hy h2 => by
        have := hs (i + 1) y ρ2 hy (by rw [show n + (i + 1) = n + 1 + i by omega]; exact h2)
        rw [show n + (i + 1) + 1 = n + 1 + i + 1 by omega] at this
        exact this) h
      refine ⟨o2, by rw [fLoop, e]; exact e2, ?_⟩
      rw [List.length_cons, show n + (xs.length + 1) = n + 1 + xs.length by omega]
      exact k
    · exact ⟨_, by rw [fLoop, e]; rfl, .inr ⟨d, rfl, h⟩⟩
/-- a loop that goes to its end, or gives an answer -/
theorem Go.forR {mi : Rho → R (List D)} {bd : Bnd} {xs : List D} (I : Nat → Rho → Prop) (J : D → Prop) (h : mi ρ = .ok xs) (h0 : I 0 ρ)
    (hs : ∀ i x ρ, xs[i]? = some x → I i ρ → ∃ ρ1, bd x ρ = some ρ1 ∧ Go body ρ1 fun o => (∃ ρ', o = .next ρ' ∧ I (i + 1) ρ') ∨ (∃ d, o = .ret d ∧ J d)) (hd : ∀ ρ', I xs.length ρ' → P (.next ρ')) (hr : ∀ d, J d → P (.ret d)) : Go (mFor mi bd body) ρ P := by
  obtain ⟨o, e, k⟩ := fLoop_go (bb := turnM bd body) I J xs 0 ρ (fun i x ρ2 hx h2 => by
    rw [Nat.zero_add] at h2 ⊢
    obtain ⟨ρ1, hb, o, e, k⟩ := hs i x ρ2 hx h2
    exact ⟨o, by unfold turnM; rw [hb]; exact e, k⟩) h0
  rw [Nat.zero_add] at k
  refine ⟨o, by unfold mFor; rw [h]; exact e, ?_⟩
  rcases k with ⟨ρ', rfl, k⟩ | ⟨d, rfl, k⟩
  · exact hd ρ' k
  · exact hr d k
/-- a loop that goes to its end -/
theorem Go.for {mi : Rho → R (List D)} {bd : Bnd} {xs : List D} (I : Nat → Rho → Prop) (h : mi ρ = .ok xs) (h0 : I 0 ρ)
    (hs : ∀ i x ρ, xs[i]? = some x → I i ρ → ∃ ρ1, bd x ρ = some ρ1 ∧ Go body ρ1 fun o => ∃ ρ', o = .next ρ' ∧ I (i + 1) ρ') (hd : ∀ ρ', I xs.length ρ' → P (.next ρ')) : Go (mFor mi bd body) ρ P :=
  Go.forR I (fun _ => False) h h0 (fun i x ρ hx h2 => by
    obtain ⟨ρ1, e, o, e2, k⟩ := hs i x ρ hx h2
    exact ⟨ρ1, e, o, e2, .inl k⟩) hd fun _ z => z.elim
theorem wRun_go {t : Rho → R Bool} {bb : Rho → R Out} (I : Nat → Rho → Prop) (hs : ∀ n ρ, I n ρ → ∃ c, t ρ = .ok c ∧ (c = true → Go bb ρ fun o => ∃ ρ' n', o = .next ρ' ∧ n' < n ∧ I n' ρ')) : ∀ (n : Nat) (ρ : Rho), I n ρ → ∃ ρ' n', wRun t bb ρ (.next ρ') ∧ I n' ρ' ∧ t ρ' = .ok false := by
  intro n
  induction n using Nat.strongRecOn with
  | _ n ih =>
    intro ρ h
    obtain ⟨c, e, k⟩ := hs n ρ h
    cases c with
    | false => exact ⟨ρ, n, .stop e, h, e⟩
    | true =>
      obtain ⟨o, e2, ρ1, n1, rfl, hlt, h1⟩ := k rfl
      obtain ⟨ρ', n', r, h2, h3⟩ := ih n1 hlt ρ1 h1
      exact ⟨ρ', n', .next e e2 r, h2, h3⟩
theorem Go.while {t : Rho → R Bool} (I : Nat → Rho → Prop) (n : Nat) (h0 : I n ρ) (hs : ∀ n ρ, I n ρ → ∃ c, t ρ = .ok c ∧ (c = true → Go body ρ fun o => ∃ ρ' n', o = .next ρ' ∧ n' < n ∧ I n' ρ'))
    (hd : ∀ ρ' n', I n' ρ' → t ρ' = .ok false → P (.next ρ')) : Go (mWhile t body) ρ P := by
  obtain ⟨ρ', n', r, h2, h3⟩ := wRun_go I hs n ρ h0
  exact ⟨_, mWhile_run r, hd ρ' n' h2 h3⟩
theorem fun_ok {N n : Nat} {mb : Rho → R Out} {ds : List D} {d : D} (h : Go mb (ds.map Sl.sh ++ List.replicate (N - n) Sl.no) fun o => endM o = .ok d) : mFun N n mb ds = .ok d := by
  obtain ⟨o, e, k⟩ := h
  unfold mFun
  rw [e]
  exact k
end
theorem range_mem {lo : Int} {n i : Nat} {d : D} (h : (rangeD lo n 1)[i]? = some d) : d = .int (lo + i) ∧ i < n := by
  have h1 := rangeD_get h
  obtain ⟨h2, _⟩ := List.getElem?_eq_some_iff.mp h
  rw [rangeD_len] at h2
  rw [Int.mul_one] at h1
  exact ⟨h1, h2⟩
theorem r1 {ρ : Rho} {m : Rho → R (List D)} (t : Nat) (h : m ρ = .ok [.int t]) (ht : t < 1000000) : mArgs dRange1 m ρ = .ok (rangeD 0 t 1) := by
  unfold mArgs
  rw [h]
  have hb : big (t : Int) := ⟨by omega, by omega⟩
  have e : dRange1 [.int (t : Int)] = R.grd (big (t : Int)) (.ok (rangeD 0 (t : Int).toNat 1)) := rfl
  rw [R.bind_ok, e, grd_ok hb, Int.toNat_natCast]
theorem r2 {ρ : Rho} {m : Rho → R (List D)} (a b : Nat) (h : m ρ = .ok [.int a, .int b]) (ha : a < 1000000) (hb : b < 1000000) : mArgs dRange2 m ρ = .ok (rangeD a (b - a) 1) := by
  unfold mArgs
  rw [h]
  have hb : big (a : Int) ∧ big (b : Int) := ⟨⟨by omega, by omega⟩, ⟨by omega, by omega⟩⟩
  have e : dRange2 [.int (a : Int), .int (b : Int)] = R.grd (big (a : Int) ∧ big (b : Int)) (.ok (rangeD a ((b : Int) - a).toNat 1)) := rfl
  rw [R.bind_ok, e, grd_ok hb, show ((b : Int) - a).toNat = b - a by omega]
theorem r3 {ρ : Rho} {m : Rho → R (List D)} (a : Int) (b : Int) (n : Nat) (h : m ρ = .ok [.int a, .int b, .int (-1)]) (ha : big a) (hb : big b) (hn : (a - b).toNat = n) : mArgs dRange3 m ρ = .ok (rangeD a n (-1)) := by
  unfold mArgs
  rw [h]
  have hb : big a ∧ big b ∧ (-1 : Int) = -1 := ⟨ha, hb, rfl⟩
  have e : dRange3 [.int a, .int b, .int (-1)] = R.grd (big a ∧ big b ∧ (-1 : Int) = -1) (.ok (rangeD a (a - b).toNat (-1))) := rfl
  rw [R.bind_ok, e, grd_ok hb, hn]
theorem back_mem {lo : Int} {n i : Nat} {d : D} (h : (rangeD lo n (-1))[i]? = some d) : d = .int (lo - i) ∧ i < n := by
  have h1 := rangeD_get h
  obtain ⟨h2, _⟩ := List.getElem?_eq_some_iff.mp h
  rw [rangeD_len] at h2
  rw [h1]
  exact ⟨by congr 1; omega, h2⟩
theorem en_mem {ds : List D} {i : Nat} {d : D} (h : (enumD ds)[i]? = some d) : ∃ x, ds[i]? = some x ∧ d = .tup [.int (i : Nat), x] := enumD_get h
def ti (l : List Int) : D := .tup (l.map D.int)
def li (l : List Int) : D := .lst (l.map D.int)
end Y
/-! # P3 -/
set_option Elab.async false
set_option linter.all false
set_option maxRecDepth 100000
set_option maxHeartbeats 1000000
namespace Y
open Po
/-- the digits of n to the base p, i of them, the lowest first -/
def dig (p : Int) : Nat → Int → List Int
  | 0, _ => []
  | i + 1, n => n % p :: dig p i (n / p)
theorem dig_len (p : Int) : ∀ (i : Nat) (n : Int), (dig p i n).length = i
  | 0, _ => rfl
  | i + 1, n => by rw [dig, List.length_cons, dig_len p i]
theorem div_pow {p : Int} (hp : 0 < p) (n : Int) (i : Nat) : n / p / p ^ i = n / p ^ (i + 1) := by
  rw [Int.ediv_ediv_of_nonneg (by omega), Int.pow_succ, Int.mul_comm]
theorem dig_app {p : Int} (hp : 0 < p) : ∀ (i : Nat) (n : Int), dig p (i + 1) n = dig p i n ++ [n / p ^ i % p]
  | 0, n => by simp [dig]
  | i + 1, n => by
    have h1 : dig p (i + 2) n = n % p :: dig p (i + 1) (n / p) := rfl
    rw [h1, dig_app hp i (n / p), div_pow hp]
    rfl
theorem dig_rd {p : Int} (hp : 0 < p) : ∀ (i : Nat) (n : Int), Rd p (dig p i n)
  | 0, _ => fun c hc => absurd hc List.not_mem_nil
  | i + 1, n => fun c hc => by
    rcases List.mem_cons.mp hc with z | z
    · rw [z]; exact ⟨Int.emod_nonneg _ (by omega), Int.emod_lt_of_pos _ hp⟩
    · exact dig_rd hp i (n / p) c z
theorem dig_ev {p : Int} (hp : 0 < p) : ∀ (i : Nat) (n : Int), 0 ≤ n → n < p ^ i → ev (dig p i n) p = n
  | 0, n, h0, h1 => by
    rw [Int.pow_zero] at h1
    have : n = 0 := by omega
    rw [this]; rfl
  | i + 1, n, h0, h1 => by
    rw [dig, ev, dig_ev hp i (n / p) (Int.ediv_nonneg h0 (by omega)) (by
      rw [Int.pow_succ] at h1
      exact Int.ediv_lt_of_lt_mul hp h1)]
    have := Int.emod_add_mul_ediv n p
    omega
theorem ev_bound {p : Int} (hp : 0 < p) : ∀ l : List Int, Rd p l → 0 ≤ ev l p ∧ ev l p < p ^ l.length
  | [], _ => by simp [ev]
  | a :: l, h => by
    obtain ⟨h1, h2⟩ := ev_bound hp l fun c hc => h c (List.mem_cons_of_mem _ hc)
    obtain ⟨a0, a1⟩ := h a List.mem_cons_self
    rw [ev, List.length_cons, Int.pow_succ]
    have h3 : 0 ≤ p * ev l p := Int.mul_nonneg (by omega) h1
    have h4 : p * (ev l p + 1) ≤ p * p ^ l.length := Int.mul_le_mul_of_nonneg_left (by omega) (by omega)
    have h5 : p * (ev l p + 1) = p * ev l p + p := by rw [Int.mul_add, Int.mul_one]
    have h6 : p ^ l.length * p = p * p ^ l.length := Int.mul_comm _ _
    omega
theorem dig_of {p : Int} (hp : 0 < p) : ∀ l : List Int, Rd p l → dig p l.length (ev l p) = l
  | [], _ => rfl
  | a :: l, h => by
    have hl : Rd p l := fun c hc => h c (List.mem_cons_of_mem _ hc)
    obtain ⟨a0, a1⟩ := h a List.mem_cons_self
    have e1 : (a + p * ev l p) % p = a := by
      rw [Int.add_mul_emod_self_left]
      exact Int.emod_eq_of_lt a0 a1
    have e2 : (a + p * ev l p) / p = ev l p := by
      rw [Int.add_mul_ediv_left _ _ (by omega), Int.ediv_eq_zero_of_lt a0 a1, Int.zero_add]
    rw [List.length_cons, dig, ev, e1, e2, dig_of hp l hl]
def num (p : Int) (d : Nat) (n : Int) : List Int := dig p d n ++ [1]
theorem num_len (p : Int) (d : Nat) (n : Int) : (num p d n).length = d + 1 := by simp [num, dig_len]
theorem num_mo {p : Int} (hp : 1 < p) (d : Nat) (n : Int) : Mo p (num p d n) := by
  refine ⟨fun c hc => ?_, by simp [num], ?_⟩
  · rcases List.mem_append.mp hc with z | z
    · exact dig_rd (by omega) d n c z
    · rw [List.mem_singleton.mp z]; omega
  · rw [num_len, Nat.add_sub_cancel]
    unfold co num
    rw [List.getD_eq_getElem?_getD, List.getElem?_append_right (by rw [dig_len]; exact Nat.le_refl _), dig_len, Nat.sub_self]
    rfl
theorem num_ev {p : Int} (hp : 1 < p) {d : Nat} {n : Int} (h0 : 0 ≤ n) (h1 : n < p ^ d) : ev (num p d n) p = n + p ^ d := by
  unfold num
  rw [ev_app, dig_ev (by omega) d n h0 h1, dig_len]
  simp [ev]
/-- every monic reduced row is one of the numbered ones -/
theorem mo_num {p : Int} (hp : 1 < p) {l : List Int} (m : Mo p l) : ∃ n, 0 ≤ n ∧ n < p ^ (l.length - 1) ∧ l = num p (l.length - 1) n := by
  rcases List.eq_nil_or_concat l with z | ⟨l', c, z⟩
  · exact absurd z m.ne
  · rw [List.concat_eq_append] at z
    subst z
    have hl : (l' ++ [c]).length - 1 = l'.length := by simp
    have r : Rd p l' := fun c hc => m.rd c (List.mem_append_left _ hc)
    have e := m.top
    rw [hl] at e
    have hc : c = 1 := by
      unfold co at e
      rw [List.getD_eq_getElem?_getD, List.getElem?_append_right (Nat.le_refl _), Nat.sub_self] at e
      exact e
    obtain ⟨b0, b1⟩ := ev_bound (by omega : 0 < p) l' r
    refine ⟨ev l' p, b0, by rw [hl]; exact b1, ?_⟩
    rw [hl, hc]
    unfold num
    rw [dig_of (by omega) l' r]
/-! ### the text's small functions -/
theorem sm64 {p : Int} (h0 : 1 < p) (h1 : p < 100) : small64 p := ⟨by omega, by omega⟩
namespace K02
theorem e_power {p : Int} (h0 : 1 < p) (h1 : p < 100) {t : Nat} (ht : t < 1000) : f_small_power [.int p, .int t] = .ok (.int (p ^ t)) := by
  refine fun_ok (.seq (.set rfl ⟨_, rfl, .seq (.for (fun i ρ => ρ = [.sh (.int p), .sh (.int t), .sh (.int (p ^ i)), .no]) (xs := rangeD 0 t 1) ?_ (by rw [Int.pow_zero]; rfl) ?_ ?_)⟩))
  · exact r1 t rfl (by omega)
  · rintro i x ρ hx rfl
    obtain ⟨rfl, hi⟩ := range_mem hx
    refine ⟨_, rfl, .seq (.aug rfl rfl (grd_ok (p := small64 _ ∨ small64 p) (.inr (sm64 h0 h1))) ⟨_, rfl, .no (.skip ⟨_, rfl, ?_⟩)⟩)⟩
    rw [Int.pow_succ]
    rfl
  · rintro ρ rfl
    rw [rangeD_len]
    exact ⟨_, rfl, .ret rfl rfl⟩
theorem e_lpower {p : Int} (h0 : 1 < p) (h1 : p < 100) {t : Nat} (ht : t < 1000) : f_l_power [.int p, .int t] = .ok (.int (p ^ t)) := by
  refine fun_ok (.seq (.set rfl ⟨_, rfl, .seq (.for (fun i ρ => ρ = [.sh (.int p), .sh (.int t), .sh (.int (p ^ i)), .no]) (xs := rangeD 0 t 1) ?_ (by rw [Int.pow_zero]; rfl) ?_ ?_)⟩))
  · exact r1 t rfl (by omega)
  · rintro i x ρ hx rfl
    obtain ⟨rfl, hi⟩ := range_mem hx
    refine ⟨_, rfl, .seq (.set (d := .int (p ^ i * p)) (grd_ok (p := small64 _ ∨ small64 p) (.inr (sm64 h0 h1))) ⟨_, rfl, .no (.skip ⟨_, rfl, ?_⟩)⟩)⟩
    rw [Int.pow_succ]
    rfl
  · rintro ρ rfl
    rw [rangeD_len]
    exact ⟨_, rfl, .ret rfl rfl⟩
theorem e_num {p : Int} (h0 : 1 < p) (h1 : p < 100) {d : Nat} (hd : d < 1000) (n : Int) : f_numbered_polynomial [.int p, .int d, .int n] = .ok (ti (num p d n)) := by
  refine fun_ok (.seq (.own (ds := []) (grd_ok (p := (0 : Nat) ≤ 16777216) (by decide)) ⟨_, rfl, .seq (.for (fun i ρ => ρ = [.sh (.int p), .sh (.int d), .sh (.int (n / p ^ i)), .ow ((dig p i n).map D.int), .no]) (xs := rangeD 0 d 1) ?_ ?_ ?_ ?_)⟩))
  · exact r1 d rfl (by omega)
  · rw [Int.pow_zero, Int.ediv_one]; rfl
  · rintro i x ρ hx rfl
    obtain ⟨rfl, hi⟩ := range_mem hx
    refine ⟨_, rfl, .seq (.app (d := .int (n / p ^ i % p)) rfl (grd_ok (p := 0 < p) (by omega)) (by rw [List.length_map, dig_len]; omega) ⟨_, rfl, .seq (.aug (z := .int (n / p ^ i / p)) rfl rfl (grd_ok (p := 0 < p ∧ p < 1073741824) ⟨by omega, by omega⟩) ⟨_, rfl, .no (.skip ⟨_, rfl, ?_⟩)⟩)⟩)⟩
    rw [dig_app (by omega) i n, List.map_append, Int.ediv_ediv_of_nonneg (by
      have := Int.pow_pos (n := p) (m := i) (by omega)
      omega), ← Int.pow_succ]
    rfl
  · rintro ρ rfl
    rw [rangeD_len]
    refine ⟨_, rfl, .ret (d := ti (num p d n)) ?_ rfl⟩
    have hl : ((dig p d n).map D.int).length + ([D.int 1]).length ≤ 16777216 := by rw [List.length_map, dig_len]; simp; omega
    show R.bind (R.grd (((dig p d n).map D.int).length + ([D.int 1]).length ≤ 16777216) _) _ = _
    rw [grd_ok hl]
    unfold ti num
    rw [List.map_append]
    rfl
theorem e_monic {p : Int} (h0 : 1 < p) (h1 : p < 100) {d : Nat} (hd : d < 1000) (n : Int) : f_l_monic [.int p, .int d, .int n] = .ok (li (num p d n)) := by
  refine fun_ok (.seq (.own (ds := []) (grd_ok (p := (0 : Nat) ≤ 16777216) (by decide)) ⟨_, rfl, .seq (.for (fun i ρ => ρ = [.sh (.int p), .sh (.int d), .sh (.int (n / p ^ i)), .ow ((dig p i n).map D.int), .no]) (xs := rangeD 0 d 1) ?_ ?_ ?_ ?_)⟩))
  · exact r1 d rfl (by omega)
  · rw [Int.pow_zero, Int.ediv_one]; rfl
  · rintro i x ρ hx rfl
    obtain ⟨rfl, hi⟩ := range_mem hx
    refine ⟨_, rfl, .seq (.app (d := .int (n / p ^ i % p)) rfl (grd_ok (p := 0 < p) (by omega)) (by rw [List.length_map, dig_len]; omega) ⟨_, rfl, .seq (.set (d := .int (n / p ^ i / p)) (grd_ok (p := 0 < p ∧ p < 2 ^ 200) ⟨by omega, by omega⟩) ⟨_, rfl, .no (.skip ⟨_, rfl, ?_⟩)⟩)⟩)⟩
    rw [dig_app (by omega) i n, List.map_append, Int.ediv_ediv_of_nonneg (by
      have := Int.pow_pos (n := p) (m := i) (by omega)
      omega), ← Int.pow_succ]
    rfl
  · rintro ρ rfl
    rw [rangeD_len]
    refine ⟨_, rfl, .ret (d := li (num p d n)) ?_ rfl⟩
    have hl : ((dig p d n).map D.int).length + ([D.int 1]).length ≤ 16777216 := by rw [List.length_map, dig_len]; simp; omega
    show R.grd (((dig p d n).map D.int).length + ([D.int 1]).length ≤ 16777216) _ = _
    rw [grd_ok hl]
    unfold li num
    rw [List.map_append]
    rfl
end K02
end Y
/-! # P4 -/
set_option Elab.async false
set_option linter.all false
set_option maxRecDepth 100000
set_option maxHeartbeats 1000000
namespace Y
open Po PySem
section
variable {ρ : Rho} {a b m : Rho → R D} {s t : Rho → R Bool} {ma : Rho → R (List D)} {x y z d : D} {ds : List D} {c : Bool} {n : Nat}
theorem vBin {f : D → D → R D} (ha : a ρ = .ok x) (hb : b ρ = .ok y) (h : f x y = .ok z) : mBin f a b ρ = .ok z := by
  unfold mBin
  rw [ha, R.bind_ok, hb, R.bind_ok, h]
theorem vUn {f : D → R D} (ha : a ρ = .ok x) (h : f x = .ok z) : mUn f a ρ = .ok z := by
  unfold mUn
  rw [ha, R.bind_ok, h]
theorem vBi {f : List D → R D} (ha : ma ρ = .ok ds) (h : f ds = .ok z) : mBi f ma ρ = .ok z := by
  unfold mBi
  rw [ha, R.bind_ok, h]
theorem vCons (ha : a ρ = .ok x) (h : ma ρ = .ok ds) : mCons a ma ρ = .ok (x :: ds) := by
  unfold mCons
  rw [ha, R.bind_ok, h]
  rfl
theorem v1 (ha : a ρ = .ok x) : mCons a mNil ρ = .ok [x] := vCons ha rfl
theorem v2 (ha : a ρ = .ok x) (hb : b ρ = .ok y) : mCons a (mCons b mNil) ρ = .ok [x, y] := vCons ha (vCons hb rfl)
theorem vCall {f : List D → R D} (ha : ma ρ = .ok ds) (hl : ds.length = n) (h : f ds = .ok z) : mCall n f ma ρ = .ok z := by
  unfold mCall
  rw [ha, R.bind_ok, grd_ok hl, h]
theorem vTup (ha : ma ρ = .ok ds) (hl : ds.length ≤ 16777216) : mTup ma ρ = .ok (.tup ds) := by
  unfold mTup
  rw [ha, R.bind_ok, grd_ok hl]
theorem vLst (ha : ma ρ = .ok ds) (hl : ds.length ≤ 16777216) : mLst ma ρ = .ok ds := by
  unfold mLst
  rw [ha, R.bind_ok, grd_ok hl]
theorem vFrz (ha : ma ρ = .ok ds) : mFrz ma ρ = .ok (.lst ds) := by
  unfold mFrz
  rw [ha]
  rfl
theorem vTupL (ha : m ρ = .ok (.lst ds)) : mTupC m ρ = .ok (.tup ds) := by
  unfold mTupC
  rw [ha]
  rfl
theorem vTupT (ha : m ρ = .ok (.tup ds)) : mTupC m ρ = .ok (.tup ds) := by
  unfold mTupC
  rw [ha]
  rfl
theorem vTb (h : m ρ = .ok (.bl c)) : mTb m ρ = .ok c := by
  unfold mTb
  rw [h]
  rfl
theorem vTt (h : m ρ = .ok (.bl c)) : mTt m ρ = .ok c := by
  unfold mTt
  rw [h]
  rfl
theorem vNot (h : s ρ = .ok c) : mNotT s ρ = .ok (!c) := by
  unfold mNotT
  rw [h]
  rfl
theorem vAnd (h : s ρ = .ok true) (h2 : t ρ = .ok c) : mAndT s t ρ = .ok c := by
  unfold mAndT
  rw [h, R.bind_ok, if_pos rfl, h2]
theorem vAndF (h : s ρ = .ok false) : mAndT s t ρ = .ok false := by
  unfold mAndT
  rw [h, R.bind_ok, if_neg Bool.false_ne_true]
theorem vOr (h : s ρ = .ok false) (h2 : t ρ = .ok c) : mOrT s t ρ = .ok c := by
  unfold mOrT
  rw [h, R.bind_ok, if_neg Bool.false_ne_true, h2]
theorem vOrT (h : s ρ = .ok true) : mOrT s t ρ = .ok true := by
  unfold mOrT
  rw [h, R.bind_ok, if_pos rfl]
theorem vIfT (h : s ρ = .ok true) (h2 : a ρ = .ok x) : mIfE s a b ρ = .ok x := by
  unfold mIfE
  rw [h, R.bind_ok, if_pos rfl, h2]
theorem vIfF (h : s ρ = .ok false) (h2 : b ρ = .ok x) : mIfE s a b ρ = .ok x := by
  unfold mIfE
  rw [h, R.bind_ok, if_neg Bool.false_ne_true, h2]
end
/-! ### rows of ints as data -/
theorem ix_li {l : List Int} {i : Nat} (h : i < l.length) : dIx (li l) (.int i) = .ok (.int (co l i)) := by
  have e : atD (l.map D.int) (i : Int) = some (.int (co l i)) := by
    unfold atD
    rw [if_pos (by omega), Int.toNat_natCast, List.getElem?_map, List.getElem?_eq_getElem h, co_get h]
    rfl
  show (match atD (l.map D.int) (i : Int) with | some d => R.ok d | none => .stuck) = _
  rw [e]
theorem ix_ti {l : List Int} {i : Nat} (h : i < l.length) : dIx (ti l) (.int i) = .ok (.int (co l i)) := by
  have e : atD (l.map D.int) (i : Int) = some (.int (co l i)) := by
    unfold atD
    rw [if_pos (by omega), Int.toNat_natCast, List.getElem?_map, List.getElem?_eq_getElem h, co_get h]
    rfl
  show (match atD (l.map D.int) (i : Int) with | some d => R.ok d | none => .stuck) = _
  rw [e]
theorem last_of {l : List Int} (h : l ≠ []) : atD (l.map D.int) (-1) = some (.int (co l (l.length - 1))) := by
  have := List.length_pos_iff.mpr h
  unfold atD
  rw [if_neg (by decide), List.length_map, if_pos (by omega), show (-1 + (l.length : Int)).toNat = l.length - 1 by omega, List.getElem?_map, List.getElem?_eq_getElem (by omega), co_get (by omega)]
  rfl
theorem last_ti {l : List Int} (h : l ≠ []) : dIx (ti l) (.int (-1)) = .ok (.int (co l (l.length - 1))) := by
  show (match atD (l.map D.int) (-1) with | some d => R.ok d | none => .stuck) = _
  rw [last_of h]
theorem last_li {l : List Int} (h : l ≠ []) : dIx (li l) (.int (-1)) = .ok (.int (co l (l.length - 1))) := by
  show (match atD (l.map D.int) (-1) with | some d => R.ok d | none => .stuck) = _
  rw [last_of h]
theorem len_li (l : List Int) : dLen [li l] = .ok (.int l.length) := by
  show R.ok (D.int ((l.map D.int).length : Nat)) = _
  rw [List.length_map]
theorem len_ti (l : List Int) : dLen [ti l] = .ok (.int l.length) := by
  show R.ok (D.int ((l.map D.int).length : Nat)) = _
  rw [List.length_map]
theorem ixN_nat {n i : Nat} (h : i < n) : L2.ixN n (i : Int) = some i := by
  unfold L2.ixN
  rw [if_pos (by omega), if_pos (by omega), Int.toNat_natCast]
theorem py_ints : ∀ ns : List Int, D.pyL (ns.map D.int) = ns.map PyData.int ∧ D.plainL (ns.map D.int) = true
  | [] => ⟨by simp [D.pyL], by simp [D.plainL]⟩
  | n :: ns => by
    obtain ⟨h1, h2⟩ := py_ints ns
    exact ⟨by simp [D.pyL, D.py, h1], by simp [D.plainL, D.plain, h2]⟩
theorem eq_ii (i j : Int) : dEq (.int i) (.int j) = .ok (.bl (decide (i = j))) := by
  have h : cmpOk (.int i) (.int j) = true := by simp [cmpOk, D.plain, D.py, shaped_int]
  unfold dEq
  rw [grd_ok h]
  simp only [D.py, PyData.eqv]
  by_cases e : i = j <;> simp [e]
theorem ne_ii (i j : Int) : dNe (.int i) (.int j) = .ok (.bl (!decide (i = j))) := by
  have h : cmpOk (.int i) (.int j) = true := by simp [cmpOk, D.plain, D.py, shaped_int]
  unfold dNe
  rw [grd_ok h]
  simp only [D.py, PyData.eqv]
  by_cases e : i = j <;> simp [e]
theorem eq_ll (a b : List Int) : dEq (li a) (li b) = .ok (.bl (decide (a = b))) := by
  obtain ⟨a1, a2⟩ := py_ints a
  obtain ⟨b1, b2⟩ := py_ints b
  have h : cmpOk (li a) (li b) = true := by simp [cmpOk, li, D.plain, D.py, a1, a2, b1, b2, shaped_ints]
  unfold dEq
  rw [grd_ok h]
  simp only [li, D.py, PyData.eqv, a1, b1, eqvAll_ints]
theorem ne_ll (a b : List Int) : dNe (li a) (li b) = .ok (.bl (!decide (a = b))) := by
  obtain ⟨a1, a2⟩ := py_ints a
  obtain ⟨b1, b2⟩ := py_ints b
  have h : cmpOk (li a) (li b) = true := by simp [cmpOk, li, D.plain, D.py, a1, a2, b1, b2, shaped_ints]
  unfold dNe
  rw [grd_ok h]
  simp only [li, D.py, PyData.eqv, a1, b1, eqvAll_ints]
theorem eq_tt (a b : List Int) : dEq (ti a) (ti b) = .ok (.bl (decide (a = b))) := by
  obtain ⟨a1, a2⟩ := py_ints a
  obtain ⟨b1, b2⟩ := py_ints b
  have h : cmpOk (ti a) (ti b) = true := by simp [cmpOk, ti, D.plain, D.py, a1, a2, b1, b2, shaped_tints]
  unfold dEq
  rw [grd_ok h]
  simp only [ti, D.py, PyData.eqv, a1, b1, eqvAll_ints]
/-- without the zeros at its end -/
def trim : List Int → List Int
  | [] => []
  | a :: l => if trim l = [] ∧ a = 0 then [] else a :: trim l
theorem trim_ev : ∀ (l : List Int) (x : Int), ev (trim l) x = ev l x
  | [], x => rfl
  | a :: l, x => by
    have h := trim_ev l x
    unfold trim
    split
    · rename_i z
      rw [z.1] at h
      show ev [] x = a + x * ev l x
      rw [← h, z.2]
      simp [ev]
    · rw [ev, ev, h]
theorem trim_nil : ∀ l : List Int, trim l = [] ↔ ∀ c ∈ l, c = 0
  | [] => ⟨fun _ c hc => absurd hc List.not_mem_nil, fun _ => rfl⟩
  | a :: l => by
    have ih := trim_nil l
    unfold trim
    constructor
    · intro h c hc
      split at h
      · rename_i z
        rcases List.mem_cons.mp hc with y | y
        · rw [y, z.2]
        · exact ih.mp z.1 c y
      · cases h
    · intro h
      rw [if_pos ⟨ih.mpr fun c hc => h c (List.mem_cons_of_mem _ hc), h a List.mem_cons_self⟩]
theorem trim_zero : ∀ l : List Int, trim (l ++ [0]) = trim l
  | [] => by simp [trim]
  | a :: l => by
    rw [List.cons_append, trim, trim, trim_zero l]
theorem trim_top : ∀ (l : List Int) (c : Int), c ≠ 0 → trim (l ++ [c]) = l ++ [c]
  | [], c, h => by simp [trim, h]
  | a :: l, c, h => by
    rw [List.cons_append, trim, trim_top l c h, if_neg (by simp)]
theorem trim_id {l : List Int} (h : l ≠ []) (t : co l (l.length - 1) ≠ 0) : trim l = l := by
  rcases List.eq_nil_or_concat l with z | ⟨l', c, z⟩
  · exact absurd z h
  · rw [List.concat_eq_append] at z
    subst z
    refine trim_top l' c ?_
    have hl : (l' ++ [c]).length - 1 = l'.length := by simp
    rw [hl] at t
    unfold co at t
    rw [List.getD_eq_getElem?_getD, List.getElem?_append_right (Nat.le_refl _), Nat.sub_self] at t
    exact t
theorem trim_rd {p : Int} : ∀ {l : List Int}, Rd p l → Rd p (trim l)
  | [], h => h
  | a :: l, h => fun c hc => by
    unfold trim at hc
    split at hc
    · exact absurd hc List.not_mem_nil
    · rcases List.mem_cons.mp hc with z | z
      · rw [z]; exact h a List.mem_cons_self
      · exact trim_rd (fun c hc => h c (List.mem_cons_of_mem _ hc)) c z
theorem take_map (l : List Int) (n : Nat) : (l.map D.int).take n = (l.take n).map D.int := by rw [List.map_take]
theorem cut_upto {l : List D} (n : Nat) (h : n ≤ l.length) : cutD l none (some (n : Int)) = l.take n := by
  unfold cutD
  rw [show HT.sIx l.length l.length (some (n : Int)) = min n l.length from HT.sIx_nat l.length l.length n, HT.sIx_none, List.drop_zero, Nat.sub_zero, Nat.min_eq_left h]
end Y
/-! # P5 -/
set_option Elab.async false
set_option linter.all false
set_option maxRecDepth 100000
set_option maxHeartbeats 1000000
namespace Y
open Po PySem
def mono (n : Nat) (k : Int) : List Int := List.replicate n 0 ++ [k]
theorem ev_mono (n : Nat) (k x : Int) : ev (mono n k) x = x ^ n * k := by
  unfold mono
  rw [ev_app, ev_zeros, List.length_replicate]
  simp [ev]
theorem ev_take_succ {g : List Int} {j : Nat} (h : j < g.length) (x : Int) : ev (g.take (j + 1)) x = ev (g.take j) x + co g j * x ^ j := by
  rw [List.take_add_one, List.getElem?_eq_getElem h, ev_app, List.length_take, Nat.min_eq_left (by omega), co_get h]
  simp only [Option.toList_some, ev]
  grind
theorem co_set {l : List Int} {i : Nat} (v : Int) (h : i < l.length) (k : Nat) : co (l.set i v) k = if k = i then v else co l k := by
  unfold co
  rw [List.getD_eq_getElem?_getD, List.getElem?_set, List.getD_eq_getElem?_getD]
  by_cases e : i = k
  · subst e
    rw [if_pos rfl, if_pos rfl]
    simp [h]
  · rw [if_neg e, if_neg (Ne.symm e)]
theorem rd_set {p : Int} {l : List Int} {i : Nat} {v : Int} (h : Rd p l) (h0 : 0 ≤ v) (h1 : v < p) : Rd p (l.set i v) := fun c hc => by
  rcases List.mem_or_eq_of_mem_set hc with z | z
  · exact h c z
  · rw [z]; exact ⟨h0, h1⟩
theorem map_set (l : List Int) (i : Nat) (v : Int) : (l.map D.int).set i (.int v) = (l.set i v).map D.int := by rw [List.map_set]
theorem sm_rd {p c : Int} (h0 : 0 ≤ c) (h1 : c < p) (h2 : p < 100) : small64 c := ⟨by omega, by omega⟩
namespace K02
theorem e_trimmed {l : List Int} (hl : l.length < 100000) : f_trimmed_off [li l] = .ok (ti (trim l)) := by
  refine fun_ok (.seq (.set (vBi (v1 rfl) (len_li l)) ⟨_, rfl, .seq (.while (fun n ρ => ∃ e : Nat, n = e ∧ e ≤ l.length ∧ ρ = [.sh (li l), .sh (.int e)] ∧ trim l = trim (l.take e)) l.length ⟨l.length, rfl, Nat.le_refl _, rfl, by rw [List.take_length]⟩ ?_ ?_)⟩))
  · rintro n ρ ⟨e, rfl, he, rfl, ht⟩
    rcases Nat.eq_zero_or_pos n with z | z
    · subst z
      exact ⟨false, vAndF (vTb (vBin rfl rfl rfl)), fun q => absurd q Bool.false_ne_true⟩
    · obtain ⟨e, rfl⟩ : ∃ e, n = e + 1 := ⟨n - 1, by omega⟩
      have h1 : mTb (mBin dGt (mVarB 1) (mC (.int 0))) [.sh (li l), .sh (.int ((e + 1 : Nat) : Int))] = .ok true := vTb (vBin rfl rfl (by
        show R.ok (D.bl (decide ((0 : Int) < ((e + 1 : Nat) : Int)))) = _
        rw [decide_eq_true (by omega)]))
      have h2 : mBin dSub (mVarB 1) (mC (.int 1)) [.sh (li l), .sh (.int ((e + 1 : Nat) : Int))] = .ok (.int e) := vBin rfl rfl (by
        show R.ok (D.int (((e + 1 : Nat) : Int) - 1)) = _
        rw [show ((e + 1 : Nat) : Int) - 1 = e by omega])
      refine ⟨decide (co l e = 0), vAnd h1 (vTb (vBin (vBin rfl h2 (ix_li (by omega))) rfl (eq_ii _ _))), fun q => ?_⟩
      have hc := of_decide_eq_true q
      refine .aug rfl rfl (z := .int e) (by
        show R.ok (D.int (((e + 1 : Nat) : Int) - 1)) = _
        rw [show ((e + 1 : Nat) : Int) - 1 = e by omega]) ⟨_, e, rfl, Nat.lt_succ_self _, e, rfl, by omega, rfl, ?_⟩
      rw [ht, List.take_add_one, List.getElem?_eq_getElem (by omega)]
      rw [co_get (by omega)] at hc
      rw [hc]
      exact trim_zero _
  · rintro ρ n ⟨e, rfl, he, rfl, ht⟩ hf
    refine ⟨_, rfl, .ret (d := ti (trim l)) ?_ rfl⟩
    have h3 : mTupC (mCut (mVarB 0) mNone (mPart (mVarB 1))) [.sh (li l), .sh (.int (n : Int))] = .ok (.tup (cutD (l.map D.int) none (some (n : Int)))) := vTupL rfl
    rw [h3, cut_upto n (by rw [List.length_map]; exact he), take_map]
    have h4 : trim l = l.take n := by
      rw [ht]
      rcases Nat.eq_zero_or_pos n with z | z
      · subst z; rfl
      · obtain ⟨e, rfl⟩ : ∃ e, n = e + 1 := ⟨n - 1, by omega⟩
        have h1 : mTb (mBin dGt (mVarB 1) (mC (.int 0))) [.sh (li l), .sh (.int ((e + 1 : Nat) : Int))] = .ok true := vTb (vBin rfl rfl (by
          show R.ok (D.bl (decide ((0 : Int) < ((e + 1 : Nat) : Int)))) = _
          rw [decide_eq_true (by omega)]))
        have h2 : mBin dSub (mVarB 1) (mC (.int 1)) [.sh (li l), .sh (.int ((e + 1 : Nat) : Int))] = .ok (.int e) := vBin rfl rfl (by
          show R.ok (D.int (((e + 1 : Nat) : Int) - 1)) = _
          rw [show ((e + 1 : Nat) : Int) - 1 = e by omega])
        have h5 : mAndT (mTb (mBin dGt (mVarB 1) (mC (.int 0)))) (mTb (mBin dEq (mBin dIx (mVarB 0) (mBin dSub (mVarB 1) (mC (.int 1)))) (mC (.int 0)))) [.sh (li l), .sh (.int ((e + 1 : Nat) : Int))] = .ok (decide (co l e = 0)) := vAnd h1 (vTb (vBin (vBin rfl h2 (ix_li (by omega))) rfl (eq_ii _ _)))
        rw [h5] at hf
        have hc : ¬ co l e = 0 := of_decide_eq_false (R.ok.inj hf)
        refine trim_id (by intro z; have := congrArg List.length z; rw [List.length_take, Nat.min_eq_left he, List.length_nil] at this; omega) ?_
        rw [List.length_take, Nat.min_eq_left he, Nat.add_sub_cancel]
        have : co (l.take (e + 1)) e = co l e := by
          rw [co_get (by rw [List.length_take]; omega), co_get (by omega), List.getElem_take]
        rw [this]
        exact hc
    rw [h4]
    rfl
/-- one round of taking away top times the other one -/
theorem e_inner {p : Int} (hp0 : 1 < p) (hp1 : p < 100) {r g : List Int} {at' m : Nat} {top : Int} (hr : Rd p r) (hg : Rd p g) (hgl : g.length = m + 1) (hlen : at' + m < r.length) (t0 : 0 ≤ top) (t1 : top < p) {j : Nat} (hj : j < m + 1) {r1 h1 : List Int}
    (l1 : r1.length = r.length) (rd1 : Rd p r1) (e1 : ∀ x, ev r x = ev r1 x + x ^ at' * top * ev (g.take j) x + p * ev h1 x) (c1 : ∀ k, co r1 k = if at' ≤ k ∧ k < at' + j then (co r k - top * co g (k - at')) % p else co r k) :
    ∃ h2, (r1.set (at' + j) ((co r1 (at' + j) - top * co g j) % p)).length = r.length ∧ Rd p (r1.set (at' + j) ((co r1 (at' + j) - top * co g j) % p)) ∧ (∀ x, ev r x = ev (r1.set (at' + j) ((co r1 (at' + j) - top * co g j) % p)) x + x ^ at' * top * ev (g.take (j + 1)) x + p * ev h2 x) ∧
      ∀ k, co (r1.set (at' + j) ((co r1 (at' + j) - top * co g j) % p)) k = if at' ≤ k ∧ k < at' + (j + 1) then (co r k - top * co g (k - at')) % p else co r k := by
  have hi : at' + j < r1.length := by omega
  have v0 := Int.emod_nonneg (co r1 (at' + j) - top * co g j) (show p ≠ 0 by omega)
  have v1 := Int.emod_lt_of_pos (co r1 (at' + j) - top * co g j) (show 0 < p by omega)
  have vd := Int.emod_add_mul_ediv (co r1 (at' + j) - top * co g j) p
  refine ⟨add h1 (mono (at' + j) ((co r1 (at' + j) - top * co g j) / p)), by rw [List.length_set]; exact l1, rd_set rd1 v0 v1, fun x => ?_, fun k => ?_⟩
  · rw [e1 x, ev_set _ _ _ _ hi, ev_take_succ (by omega), ev_add, ev_mono, Int.pow_add]
    have : (co r1 (at' + j) - top * co g j) % p = co r1 (at' + j) - top * co g j - p * ((co r1 (at' + j) - top * co g j) / p) := by omega
    rw [this]
    grind
  · rw [co_set _ hi]
    by_cases hk : k = at' + j
    · subst hk
      rw [if_pos rfl, if_pos ⟨by omega, by omega⟩, Nat.add_sub_cancel_left, c1, if_neg (by omega)]
    · rw [if_neg hk, c1]
      by_cases h2 : at' ≤ k ∧ k < at' + j
      · rw [if_pos h2, if_pos ⟨h2.1, by omega⟩]
      · rw [if_neg h2, if_neg (by omega)]
/-- the rest and the quotient, so far -/
structure Div (p : Int) (a g : List Int) (m i : Nat) (q r : List Int) : Prop where
  ql : q.length = a.length - m
  qr : Rd p q
  rl : r.length = a.length
  rr : Rd p r
  z : ∀ j, a.length - i ≤ j → m ≤ j → co r j = 0
  q0 : ∀ j, j < a.length - m - i → co q j = 0
  st : i = 0 → r = a
  top : 1 ≤ i → co q (a.length - m - 1) = co a (a.length - 1)
  e : ∃ h, ∀ x, ev a x = ev q x * ev g x + ev r x + p * ev h x
theorem Div.first {p : Int} (hp : 0 < p) {a g : List Int} {m : Nat} (ha : Rd p a) : Div p a g m 0 (List.replicate (a.length - m) 0) a where
  ql := List.length_replicate
  qr := fun c hc => by rw [List.eq_of_mem_replicate hc]; omega
  rl := rfl
  rr := ha
  z := fun j h _ => co_big (by omega)
  q0 := fun j h => by
    rw [co_get (by rw [List.length_replicate]; omega), List.getElem_replicate]
  st := fun _ => rfl
  top := fun h => absurd h (by decide)
  e := ⟨[], fun x => by rw [ev_zeros]; simp [ev]⟩
/-- a turn: place at', top taken off -/
theorem Div.step {p : Int} (hp : 1 < p) {a g q r r1 : List Int} {m i at' : Nat} (h : Div p a g m i q r) (hgl : g.length = m + 1) (hg1 : co g m = 1) (hat : at' + 1 + i = a.length - m) (l1 : r1.length = r.length) (rd1 : Rd p r1)
    (e1 : ∃ h1, ∀ x, ev r x = ev r1 x + x ^ at' * co r (at' + m) * ev g x + p * ev h1 x) (c1 : ∀ k, co r1 k = if at' ≤ k ∧ k < at' + (m + 1) then (co r k - co r (at' + m) * co g (k - at')) % p else co r k) : Div p a g m (i + 1) (q.set at' (co r (at' + m))) r1 where
  ql := by rw [List.length_set]; exact h.ql
  qr := rd_set h.qr (h.rr.co (by omega) _).1 (h.rr.co (by omega) _).2
  rl := by rw [l1]; exact h.rl
  rr := rd1
  z := fun j hj hm => by
    rw [c1]
    by_cases hk : j = at' + m
    · subst hk
      rw [if_pos ⟨by omega, by omega⟩, Nat.add_sub_cancel_left, hg1, Int.mul_one, Int.sub_self]
      exact Int.zero_emod p
    · rw [if_neg (by omega)]
      exact h.z j (by omega) hm
  q0 := fun j hj => by
    rw [co_set _ (by rw [h.ql]; omega), if_neg (by omega)]
    exact h.q0 j (by omega)
  st := fun z => absurd z (by omega)
  top := fun _ => by
    rw [co_set _ (by rw [h.ql]; omega)]
    rcases Nat.eq_zero_or_pos i with z | z
    · subst z
      rw [if_pos (by omega), h.st rfl, show at' + m = a.length - 1 by omega]
    · rw [if_neg (by omega)]
      exact h.top z
  e := by
    obtain ⟨h1, e1⟩ := e1
    obtain ⟨h0, e0⟩ := h.e
    refine ⟨add h0 h1, fun x => ?_⟩
    have y := e1 x
    rw [ev_set _ _ _ _ (by rw [h.ql]; omega), h.q0 at' (by omega), e0 x, ev_add]
    grind
end K02
end Y
/-! # P6 -/
set_option Elab.async false
set_option linter.all false
set_option maxRecDepth 100000
set_option maxHeartbeats 2000000
namespace Y
open Po PySem
theorem fun_go {N n : Nat} {mb : Rho → R Out} {ds : List D} {P : Out → Prop} (h : Go mb (ds.map Sl.sh ++ List.replicate (N - n) Sl.no) P) : ∃ o, P o ∧ mFun N n mb ds = endM o := by
  obtain ⟨o, e, k⟩ := h
  refine ⟨o, k, ?_⟩
  unfold mFun
  rw [e]
  rfl
theorem flat_rep (n : Nat) (d : D) : (List.replicate n [d]).flatten = List.replicate n d := by
  induction n with
  | zero => rfl
  | succ n ih => rw [List.replicate_succ, List.flatten_cons, ih, List.replicate_succ]; rfl
theorem vMulL {ρ : Rho} {a b : Rho → R D} {d : D} {n : Nat} (ha : a ρ = .ok (.lst [d])) (hb : b ρ = .ok (.int n)) (hn : n < 1000000) : mMulL a b ρ = .ok (List.replicate n d) := by
  unfold mMulL
  rw [ha, R.bind_ok, hb, R.bind_ok]
  show R.grd (-(2 ^ 63) ≤ (n : Int) ∧ (n : Int) < 2 ^ 63 ∧ ([d]).length * (n : Int).toNat ≤ 16777216) _ = _
  rw [grd_ok ⟨by omega, by omega, by rw [Int.toNat_natCast]; show 1 * n ≤ 16777216; omega⟩, Int.toNat_natCast, flat_rep]
theorem add_nn (i j : Nat) : dAdd (.int i) (.int j) = .ok (.int (i + j : Nat)) := by
  show R.ok (D.int ((i : Int) + j)) = _
  rw [Int.natCast_add]
theorem mod_ii {i p : Int} (h : 0 < p) : dMod (.int i) (.int p) = .ok (.int (i % p)) := grd_ok h
theorem mul_ii {i j : Int} (h : small64 i ∨ small64 j) : dMul (.int i) (.int j) = .ok (.int (i * j)) := grd_ok h
theorem sub1 {n m : Nat} (h : n = m + 1) : dSub (.int n) (.int 1) = .ok (.int m) := by
  show R.ok (D.int ((n : Int) - 1)) = _
  rw [h, show ((m + 1 : Nat) : Int) - 1 = m by omega]
theorem li_len (l : List Int) : (l.map D.int).length = l.length := List.length_map ..
namespace K02
theorem e_rest {p : Int} {a g : List Int} {m : Nat} (hp0 : 1 < p) (hp1 : p < 100) (ha : Rd p a) (hg : Rd p g) (hgl : g.length = m + 1) (hg1 : co g m = 1) (hal : a.length < 1000) (hm : m < 1000) :
    ∃ q r, f_polynomial_rest [.int p, ti a, ti g] = .ok (.tup [ti (trim q), ti (trim r)]) ∧ Div p a g m (a.length - m) q r := by
  have key : ∃ o, (∃ q r, o = .ret (.tup [ti (trim q), ti (trim r)]) ∧ Div p a g m (a.length - m) q r) ∧ f_polynomial_rest [.int p, ti a, ti g] = endM o := by
    refine fun_go (.seq (.par2 (x := .ow (a.map D.int)) (y := .sh (.int m)) rfl ?_ ⟨_, rfl, .seq (.own (ds := (List.replicate (a.length - m) 0).map D.int) ?_ ⟨_, rfl, .seq
      (.for (fun i ρ => ∃ q r, ρ = [.sh (.int p), .sh (ti a), .sh (ti g), .ow (q.map D.int), .no, .ow (r.map D.int), .sh (.int m), .no, .no, .no] ∧ Div p a g m i q r) (xs := rangeD ((a.length - m : Nat) - 1 : Int) (a.length - m) (-1)) ?_ ?_ ?_ ?_)⟩)⟩))
    · have h : mBin dSub (mBi dLen (mCons (mVarB 2) mNil)) (mC (.int 1)) [.sh (.int p), .sh (ti a), .sh (ti g), .no, .no, .no, .no, .no, .no, .no] = .ok (.int m) := vBin (vBi (v1 rfl) (len_ti g)) rfl (sub1 hgl)
      show (mBin dSub (mBi dLen (mCons (mVarB 2) mNil)) (mC (.int 1)) [.sh (.int p), .sh (ti a), .sh (ti g), .no, .no, .no, .no, .no, .no, .no]).bind _ = _
      rw [h]
      rfl
    · rw [List.map_replicate]
      refine vMulL rfl (vBi (v2 (vBin (vBi (v1 rfl) (len_ti a)) rfl rfl) rfl) ?_) (by omega)
      show R.ok (D.int (if (0 : Int) > (a.length : Int) - (m : Int) then 0 else (a.length : Int) - (m : Int))) = _
      congr 2
      split <;> omega
    · refine r3 _ (-1) _ (vCons (vBin (vBi (v1 rfl) (len_li _)) rfl ?_) rfl) ⟨by omega, by omega⟩ ⟨by omega, by omega⟩ (by omega)
      show R.ok (D.int ((List.replicate (a.length - m) (0 : Int)).length - 1)) = _
      rw [List.length_replicate]
    · exact ⟨_, _, rfl, .first (by omega) ha⟩
    · rintro i x ρ hx ⟨q, r, rfl, dv⟩
      obtain ⟨rfl, hi⟩ := back_mem hx
      obtain ⟨at', hat⟩ : ∃ at', at' + 1 + i = a.length - m := ⟨a.length - m - 1 - i, by omega⟩
      rw [show (((a.length - m : Nat) : Int) - 1 - (i : Int)) = (at' : Int) by omega]
      refine ⟨_, rfl, ?_⟩
      have hlen : at' + m < r.length := by rw [dv.rl]; omega
      have tt := dv.rr.co (show 0 < p by omega) (at' + m)
      refine .seq (.set (d := .int (co r (at' + m))) (vBin rfl (vBin rfl rfl (add_nn at' m)) (ix_li hlen)) ⟨_, rfl, ?_⟩)
      refine .seq (.store rfl rfl rfl (ixN_nat (by rw [li_len, dv.ql]; omega)) ⟨_, rfl, ?_⟩)
      refine .seq (.for (fun j ρ => ∃ r1, ρ = [.sh (.int p), .sh (ti a), .sh (ti g), .ow ((q.set at' (co r (at' + m))).map D.int), .sh (.int at'), .ow (r1.map D.int), .sh (.int m), .sh (.int (co r (at' + m))), .no, .no] ∧ r1.length = r.length ∧ Rd p r1 ∧
          (∃ h1, ∀ x, ev r x = ev r1 x + x ^ at' * co r (at' + m) * ev (g.take j) x + p * ev h1 x) ∧ ∀ k, co r1 k = if at' ≤ k ∧ k < at' + j then (co r k - co r (at' + m) * co g (k - at')) % p else co r k) (xs := enumD (g.map D.int)) rfl ?_ ?_ ?_)
      · refine ⟨r, ?_, rfl, dv.rr, ⟨[], fun x => by simp [ev]⟩, fun k => by rw [if_neg (by omega)]⟩
        rw [← map_set]
        rfl
      · rintro j y ρ hy ⟨r1, rfl, l1, rd1, ⟨h1, e1⟩, c1⟩
        obtain ⟨z, hz, rfl⟩ := en_mem hy
        rw [List.getElem?_map] at hz
        cases hgj : g[j]? with
        | none => rw [hgj] at hz; cases hz
        | some gj =>
          rw [hgj] at hz
          cases hz
          obtain ⟨hj, ej⟩ := List.getElem?_eq_some_iff.mp hgj
          have ej : gj = co g j := by rw [co_get hj, ej]
          subst ej
          obtain ⟨h2, a1, a2, a3, a4⟩ := e_inner hp0 hp1 dv.rr hg hgl hlen tt.1 tt.2 (by omega : j < m + 1) l1 rd1 e1 c1
          refine ⟨_, rfl, .seq (.store (v := .int ((co r1 (at' + j) - co r (at' + m) * co g j) % p)) (j := ((at' + j : Nat) : Int)) (n := at' + j) rfl ?_ (vBin rfl rfl (add_nn at' j)) (ixN_nat (by rw [li_len]; omega)) ⟨_, rfl, .no (.no (.skip ⟨_, rfl, _, ?_, a1, a2, ⟨h2, a3⟩, a4⟩))⟩)⟩
          · exact vBin (vBin (vBin rfl (vBin rfl rfl (add_nn at' j)) (ix_li (by omega))) (vBin rfl rfl (mul_ii (.inl (sm_rd tt.1 tt.2 hp1)))) rfl) rfl (mod_ii (by omega))
          · rw [map_set r1]
            rfl
      · rintro ρ ⟨r1, rfl, l1, rd1, ⟨h1, e1⟩, c1⟩
        rw [enumD_len, li_len, hgl] at e1 c1
        rw [show g.take (m + 1) = g by rw [← hgl]; exact List.take_length] at e1
        exact ⟨_, rfl, .no (.no (.no (.no (.skip ⟨_, rfl, _, _, rfl, dv.step hp0 hgl hg1 hat l1 rd1 ⟨h1, e1⟩ c1⟩))))⟩
    · rintro ρ ⟨q, r, rfl, dv⟩
      rw [rangeD_len] at dv
      refine ⟨_, rfl, .frz rfl (.frz rfl (.ret (d := .tup [ti (trim q), ti (trim r)]) (vTup (v2 (vCall (v1 rfl) rfl (e_trimmed (by rw [dv.ql]; omega))) (vCall (v1 rfl) rfl (e_trimmed (by rw [dv.rl]; omega)))) (by show 2 ≤ 16777216; decide)) ⟨q, r, rfl, dv⟩))⟩
  obtain ⟨o, ⟨q, r, rfl, dv⟩, e⟩ := key
  exact ⟨q, r, e, dv⟩
end K02
end Y
/-! # P7 -/
set_option Elab.async false
set_option linter.all false
set_option maxRecDepth 100000
set_option maxHeartbeats 2000000
namespace Y
open Po PySem
theorem drop_zero {r : List Int} {m : Nat} (h : ∀ j, m ≤ j → co r j = 0) : ∀ c ∈ r.drop m, c = 0 := fun c hc => by
  obtain ⟨i, hi, rfl⟩ := List.mem_iff_getElem.mp hc
  rw [List.length_drop] at hi
  rw [List.getElem_drop, ← co_get (by omega)]
  exact h _ (by omega)
theorem ev_cut {r : List Int} {m : Nat} (h : ∀ j, m ≤ j → co r j = 0) (x : Int) : ev (r.take m) x = ev r x := by
  have e : ev (r.take m ++ r.drop m) x = ev r x := by rw [List.take_append_drop]
  rw [ev_app, ev_zero (drop_zero h), Int.mul_zero, Int.add_zero] at e
  exact e
theorem rd_take {p : Int} {r : List Int} (h : Rd p r) (m : Nat) : Rd p (r.take m) := fun c hc => h c (List.mem_of_mem_take hc)
namespace K02
theorem Div.end {p : Int} {a g q r : List Int} {m : Nat} (d : Div p a g m (a.length - m) q r) : ∀ j, m ≤ j → co r j = 0 := fun j hj => by
  by_cases h : m ≤ a.length
  · exact d.z j (by omega) hj
  · exact co_big (by rw [d.rl]; omega)
theorem Div.iff {p : Int} {a g q r : List Int} {m : Nat} (hp : 1 < p) (mg : Mo p g) (hgl : g.length = m + 1) (d : Div p a g m (a.length - m) q r) : (∀ c ∈ r.take m, c = 0) ↔ Dv p g a := by
  have hg1 : co g m = 1 := by have := mg.top; rw [hgl, Nat.add_sub_cancel] at this; exact this
  obtain ⟨h, e⟩ := d.e
  have e' : ∀ x, ev a x = ev q x * ev g x + ev (r.take m) x + p * ev h x := fun x => by rw [ev_cut d.end]; exact e x
  exact ⟨fun z => Dv.of_rest e' z, fun dv => dv.rest (by omega) hgl hg1 (by rw [List.length_take]; exact Nat.min_le_left _ _) (rd_take d.rr m) e'⟩
theorem Div.left {p : Int} {a g q r : List Int} {m : Nat} (hp : 1 < p) (mg : Mo p g) (hgl : g.length = m + 1) (d : Div p a g m (a.length - m) q r) : trim r = [] ↔ Dv p g a := by
  rw [← d.iff hp mg hgl, trim_nil]
  constructor
  · exact fun h c hc => h c (List.mem_of_mem_take hc)
  · intro h c hc
    rw [← List.take_append_drop m r] at hc
    rcases List.mem_append.mp hc with z | z
    · exact h c z
    · exact drop_zero d.end c z
/-- what comes out where it goes -/
theorem Div.quot {p : Int} {a g q r : List Int} {m : Nat} (hp : 1 < p) (ma : Mo p a) (mg : Mo p g) (hgl : g.length = m + 1) (d : Div p a g m (a.length - m) q r) (dv : Dv p g a) : m + 1 ≤ a.length ∧ trim q = q ∧ Mo p q ∧ q.length = a.length - m ∧ ∃ h, ∀ x, ev a x = ev q x * ev g x + p * ev h x := by
  have hl : m + 1 ≤ a.length := by rw [← hgl]; exact dv.len hp mg ma
  have lq := d.ql
  have tq : co q (q.length - 1) = 1 := by rw [lq, d.top (by omega)]; exact ma.top
  have nq : q ≠ [] := fun z => by rw [z] at lq; simp at lq; omega
  obtain ⟨h, e⟩ := d.e
  refine ⟨hl, trim_id nq (by rw [tq]; decide), ⟨d.qr, nq, tq⟩, lq, h, fun x => ?_⟩
  rw [e x, ev_zero ((trim_nil r).mp ((d.left hp mg hgl).mpr dv))]
  grind
theorem vMulZ {ρ : Rho} {a b : Rho → R D} {n : Nat} (ha : a ρ = .ok (.lst [.int 0])) (hb : b ρ = .ok (.int n)) (hn : n < 1000000) : mBin dMul a b ρ = .ok (li (List.replicate n 0)) := by
  refine vBin ha hb ?_
  show R.grd (-(2 ^ 63) ≤ (n : Int) ∧ (n : Int) < 2 ^ 63 ∧ ([D.int 0]).length * (n : Int).toNat ≤ 16777216) _ = _
  rw [grd_ok ⟨by omega, by omega, by rw [Int.toNat_natCast]; show 1 * n ≤ 16777216; omega⟩, Int.toNat_natCast, flat_rep]
  unfold li
  rw [List.map_replicate]
theorem vAddL {ρ : Rho} {a b : Rho → R D} {x y : List Int} (ha : a ρ = .ok (li x)) (hb : b ρ = .ok (li y)) (hl : x.length + y.length ≤ 16777216) : mAddL a b ρ = .ok ((x ++ y).map D.int) := by
  unfold mAddL
  rw [ha, R.bind_ok, hb, R.bind_ok]
  show R.grd ((x.map D.int).length + (y.map D.int).length ≤ 16777216) _ = _
  rw [grd_ok (by rw [li_len, li_len]; exact hl), ← List.map_append]
theorem sub_nn {i j : Nat} (h : j ≤ i) : dSub (.int i) (.int j) = .ok (.int (i - j : Nat)) := by
  show R.ok (D.int ((i : Int) - j)) = _
  rw [show ((i : Int) - j) = ((i - j : Nat) : Int) by omega]
theorem e_lrest {p : Int} {a g : List Int} {m : Nat} (hp0 : 1 < p) (hp1 : p < 100) (ha : Rd p a) (hg : Rd p g) (hgl : g.length = m + 1) (hg1 : co g m = 1) (hal : a.length < 1000) (hm : m < 1000) :
    ∃ q r, f_l_rest [.int p, li a, li g] = .ok (li (r.take m)) ∧ Div p (a ++ List.replicate m 0) g m ((a ++ List.replicate m 0).length - m) q r := by
  obtain ⟨a', ea⟩ : ∃ a', a' = a ++ List.replicate m 0 := ⟨_, rfl⟩
  have la : a'.length = a.length + m := by rw [ea, List.length_append, List.length_replicate]
  have ha' : Rd p a' := fun c hc => by
    rw [ea] at hc
    rcases List.mem_append.mp hc with z | z
    · exact ha c z
    · rw [List.eq_of_mem_replicate z]; omega
  rw [← ea]
  have key : ∃ o, (∃ q r, o = .ret (li (r.take m)) ∧ Div p a' g m (a'.length - m) q r) ∧ f_l_rest [.int p, li a, li g] = endM o := by
    refine fun_go (.seq (.set (d := .int m) (vBin (vBi (v1 rfl) (len_li g)) rfl (sub1 hgl)) ⟨_, rfl, .seq (.own (ds := a'.map D.int) ?_ ⟨_, rfl, .seq
      (.for (fun i ρ => ∃ q r, ρ = [.sh (.int p), .sh (li a), .sh (li g), .sh (.int m), .ow (r.map D.int), .no, .no, .no] ∧ Div p a' g m i q r) (xs := rangeD ((a'.length : Int) - 1) (a'.length - m) (-1)) ?_ ?_ ?_ ?_)⟩)⟩))
    · rw [ea]
      exact vAddL rfl (vMulZ rfl rfl (by omega)) (by rw [List.length_replicate]; omega)
    · refine r3 ((a'.length : Int) - 1) ((m : Int) - 1) _ (vCons (vBin (vBi (v1 rfl) (len_li a')) rfl rfl) (vCons (vBin rfl rfl rfl) rfl)) ⟨by omega, by omega⟩ ⟨by omega, by omega⟩ (by omega)
    · exact ⟨_, _, rfl, .first (by omega) ha'⟩
    · rintro i x ρ hx ⟨q, r, rfl, dv⟩
      obtain ⟨rfl, hi⟩ := back_mem hx
      obtain ⟨at', hat⟩ : ∃ at', at' + 1 + i = a'.length - m := ⟨a'.length - m - 1 - i, by omega⟩
      rw [show ((a'.length : Int) - 1 - (i : Int)) = ((at' + m : Nat) : Int) by omega]
      refine ⟨_, rfl, ?_⟩
      have hlen : at' + m < r.length := by rw [dv.rl]; omega
      have tt := dv.rr.co (show 0 < p by omega) (at' + m)
      refine .seq (.set (d := .int (co r (at' + m))) (vBin rfl rfl (ix_li hlen)) ⟨_, rfl, ?_⟩)
      refine .seq (.for (fun j ρ => ∃ r1, ρ = [.sh (.int p), .sh (li a), .sh (li g), .sh (.int m), .ow (r1.map D.int), .sh (.int (at' + m : Nat)), .sh (.int (co r (at' + m))), .no] ∧ r1.length = r.length ∧ Rd p r1 ∧
          (∃ h1, ∀ x, ev r x = ev r1 x + x ^ at' * co r (at' + m) * ev (g.take j) x + p * ev h1 x) ∧ ∀ k, co r1 k = if at' ≤ k ∧ k < at' + j then (co r k - co r (at' + m) * co g (k - at')) % p else co r k) (xs := rangeD 0 (m + 1) 1) (r1 (m + 1) (v1 (vBin rfl rfl (add_nn m 1))) (by omega)) ?_ ?_ ?_)
      · exact ⟨r, rfl, rfl, dv.rr, ⟨[], fun x => by simp [ev]⟩, fun k => by rw [if_neg (by omega)]⟩
      · rintro j y ρ hy ⟨r1, rfl, l1, rd1, ⟨h1, e1⟩, c1⟩
        obtain ⟨rfl, hj⟩ := range_mem hy
        rw [show (0 : Int) + (j : Int) = (j : Int) by omega]
        obtain ⟨h2, a1, a2, a3, a4⟩ := e_inner hp0 hp1 dv.rr hg hgl hlen tt.1 tt.2 hj l1 rd1 e1 c1
        have hix : mBin dAdd (mBin dSub (mVarB 5) (mVarB 3)) (mVarB 7) [.sh (.int p), .sh (li a), .sh (li g), .sh (.int m), .ow (r1.map D.int), .sh (.int (at' + m : Nat)), .sh (.int (co r (at' + m))), .sh (.int j)] = .ok (.int (at' + j : Nat)) :=
          vBin (vBin rfl rfl (sub_nn (Nat.le_add_left _ _))) rfl (by rw [Nat.add_sub_cancel]; exact add_nn at' j)
        refine ⟨_, rfl, .seq (.store (v := .int ((co r1 (at' + j) - co r (at' + m) * co g j) % p)) (j := ((at' + j : Nat) : Int)) (n := at' + j) rfl ?_ hix (ixN_nat (by rw [li_len]; omega)) ⟨_, rfl, .no (.skip ⟨_, rfl, _, ?_, a1, a2, ⟨h2, a3⟩, a4⟩)⟩)⟩
        · exact vBin (vBi (v1 (vBin (vBin rfl hix (ix_li (by omega))) (vBin rfl (vBin rfl rfl (ix_li (by omega))) (mul_ii (.inl (sm_rd tt.1 tt.2 hp1)))) rfl)) rfl) rfl (mod_ii (by omega))
        · rw [map_set r1]
          rfl
      · rintro ρ ⟨r1, rfl, l1, rd1, ⟨h1, e1⟩, c1⟩
        rw [rangeD_len] at e1 c1
        rw [show g.take (m + 1) = g by rw [← hgl]; exact List.take_length] at e1
        exact ⟨_, rfl, .no (.no (.no (.skip ⟨_, rfl, _, _, rfl, dv.step hp0 hgl hg1 hat l1 rd1 ⟨h1, e1⟩ c1⟩)))⟩
    · rintro ρ ⟨q, r, rfl, dv⟩
      rw [rangeD_len] at dv
      refine ⟨_, rfl, .ret (d := li (r.take m)) ?_ ⟨q, r, rfl, dv⟩⟩
      show R.ok (D.lst (cutD (r.map D.int) none (some (m : Int)))) = _
      rw [cut_upto m (by rw [li_len, dv.rl]; omega), take_map]
      rfl
  obtain ⟨o, ⟨q, r, rfl, dv⟩, e⟩ := key
  exact ⟨q, r, e, dv⟩
theorem Dv.pad {p : Int} {g a : List Int} (m : Nat) : Dv p g (a ++ List.replicate m 0) ↔ Dv p g a := by
  have h : ∀ x, ev (a ++ List.replicate m 0) x = ev a x := fun x => by rw [ev_app, ev_zeros]; simp
  unfold Dv
  simp only [h]
/-- no monic one of at most half its degree goes into it -/
def Irr (p : Int) (f : List Int) : Prop := 2 ≤ f.length ∧ ∀ (e : Nat) (n : Int), 1 ≤ e → 2 * e ≤ f.length - 1 → 0 ≤ n → n < p ^ e → ¬ Dv p (num p e n) f
theorem pow_mono {p : Int} (hp : 1 < p) : ∀ {i j : Nat}, i ≤ j → p ^ i ≤ p ^ j := fun {i j} h => by
  obtain ⟨k, rfl⟩ := Nat.exists_eq_add_of_le h
  rw [Int.pow_add]
  have h1 : 0 < p ^ i := Int.pow_pos (by omega)
  have h2 : 0 < p ^ k := Int.pow_pos (by omega)
  have h3 : p ^ i * 1 ≤ p ^ i * p ^ k := Int.mul_le_mul_of_nonneg_left (by omega) (by omega)
  omega
theorem pow_nat {p : Int} (hp : 1 < p) (e : Nat) : ((p ^ e).toNat : Int) = p ^ e := by
  have h1 : 0 < p ^ e := Int.pow_pos (by omega)
  omega
theorem e_isprime {p : Int} {f : List Int} (hp0 : 1 < p) (hp1 : p < 100) (mf : Mo p f) (hl : f.length < 900) (hpe : p ^ (f.length - 1) < 1000000) : ∃ b, f_l_is_prime [.int p, li f] = .ok (.bl b) ∧ (b = true ↔ Irr p f) := by
  have lf := mf.len
  have key : ∃ o, (∃ b, o = .ret (.bl b) ∧ (b = true ↔ Irr p f)) ∧ f_l_is_prime [.int p, li f] = endM o := by
    refine fun_go (.seq (.set (d := .int (f.length - 1 : Nat)) (vBin (vBi (v1 rfl) (len_li f)) rfl (sub1 lf)) ⟨_, rfl, .seqr
      (.forR (fun i ρ => ρ = [.sh (.int p), .sh (li f), .sh (.int (f.length - 1 : Nat)), .no, .no] ∧ ∀ (e : Nat) (n : Int), 1 ≤ e → e < 1 + i → 0 ≤ n → n < p ^ e → ¬ Dv p (num p e n) f) (fun d => d = .bl false ∧ ¬ Irr p f) (xs := rangeD ((1 : Nat) : Int) ((f.length - 1) / 2 + 1 - 1) 1) ?_ ?_ ?_ ?_ ?_)⟩))
    · refine r2 1 ((f.length - 1) / 2 + 1) (v2 rfl (vBin (vBin rfl rfl (z := .int ((f.length - 1) / 2 : Nat)) ?_) rfl (add_nn _ 1))) (by omega) (by omega)
      show R.grd ((0 : Int) < 2 ∧ (2 : Int) < 2 ^ 200) _ = _
      rw [grd_ok ⟨by decide, by decide⟩]
      rfl
    · exact ⟨rfl, fun e n h1 h2 => absurd h2 (by omega)⟩
    · rintro i x ρ hx ⟨rfl, hno⟩
      obtain ⟨rfl, hi⟩ := range_mem hx
      rw [show (((1 : Nat) : Int) + (i : Int)) = ((1 + i : Nat) : Int) by omega]
      obtain ⟨e, ee⟩ : ∃ e, e = 1 + i := ⟨_, rfl⟩
      rw [← ee]
      have he : 2 * e ≤ f.length - 1 := by omega
      have hpw : p ^ e < 1000000 := Int.lt_of_le_of_lt (pow_mono hp0 (show e ≤ f.length - 1 by omega)) hpe
      have hpn := pow_nat hp0 e
      refine ⟨_, rfl, .seqr (.forR (fun j ρ => ρ = [.sh (.int p), .sh (li f), .sh (.int (f.length - 1 : Nat)), .sh (.int e), .no] ∧ ∀ n : Int, 0 ≤ n → n < j → ¬ Dv p (num p e n) f) (fun d => d = .bl false ∧ ¬ Irr p f) (xs := rangeD 0 (p ^ e).toNat 1) (r1 (p ^ e).toNat (v1 (vCall (v2 rfl rfl) rfl (by rw [hpn]; exact e_lpower hp0 hp1 (by omega)))) (by omega)) ?_ ?_ ?_ ?_)⟩
      · exact ⟨rfl, fun n h1 h2 => absurd h2 (by omega)⟩
      · rintro j y ρ hy ⟨rfl, hnj⟩
        obtain ⟨rfl, hj⟩ := range_mem hy
        rw [show (0 : Int) + (j : Int) = (j : Int) by omega]
        have mg := num_mo hp0 e (j : Int)
        have hgl := num_len p e (j : Int)
        have hg1 : co (num p e (j : Int)) e = 1 := by have := mg.top; rw [hgl, Nat.add_sub_cancel] at this; exact this
        obtain ⟨q, r, er, dv⟩ := e_lrest hp0 hp1 mf.rd mg.rd hgl hg1 (by omega) (by omega)
        have iff := dv.iff hp0 mg hgl
        rw [Dv.pad] at iff
        have hlr : (r.take e).length = e := by rw [List.length_take, dv.rl, List.length_append, List.length_replicate]; omega
        have iff2 : r.take e = List.replicate e 0 ↔ Dv p (num p e (j : Int)) f := by
          rw [← iff]
          constructor
          · intro h c hc
            rw [h] at hc
            exact List.eq_of_mem_replicate hc
          · intro h
            rw [List.eq_replicate_iff]
            exact ⟨hlr, h⟩
        have ht : mTb (mBin dEq (mCall 3 f_l_rest (mCons (mVar 0) (mCons (mVar 1) (mCons (mCall 3 f_l_monic (mCons (mVar 0) (mCons (mVar 3) (mCons (mVar 4) mNil)))) mNil)))) (mBin dMul (mFrz (mLst (mCons (mC (.int 0)) mNil))) (mVarB 3))) [.sh (.int p), .sh (li f), .sh (.int (f.length - 1 : Nat)), .sh (.int e), .sh (.int j)] = .ok (decide (r.take e = List.replicate e 0)) :=
          vTb (vBin (vCall (vCons rfl (vCons rfl (v1 (vCall (vCons rfl (vCons rfl (v1 rfl))) rfl (e_monic hp0 hp1 (by omega) (j : Int)))))) rfl er) (vMulZ rfl rfl (by omega)) (eq_ll _ _))
        refine ⟨_, rfl, .seqr ?_⟩
        by_cases hd : r.take e = List.replicate e 0
        · rw [decide_eq_true hd] at ht
          refine .ifT ht (.ret rfl (.inr ⟨_, rfl, .inr ⟨_, rfl, rfl, fun ir => ?_⟩⟩))
          exact ir.2 e j (by omega) he (by omega) (by omega) (iff2.mp hd)
        · rw [decide_eq_false hd] at ht
          refine .ifF ht (.skip (.inl ⟨_, rfl, .no (.skip (.inl ⟨_, rfl, rfl, fun n h1 h2 => ?_⟩))⟩))
          by_cases hn : n = j
          · rw [hn]; exact fun z => hd (iff2.mpr z)
          · exact hnj n h1 (by omega)
      · rintro ρ ⟨rfl, hnj⟩
        rw [rangeD_len, hpn] at hnj
        refine .inl ⟨_, rfl, .no (.no (.skip (.inl ⟨_, rfl, rfl, fun e' n h1 h2 h3 h4 => ?_⟩)))⟩
        by_cases hn : e' = e
        · subst hn; exact hnj n h3 h4
        · exact hno e' n h1 (by omega) h3 h4
      · rintro d ⟨rfl, ni⟩
        exact .inr ⟨_, rfl, .inr ⟨_, rfl, rfl, ni⟩⟩
    · rintro ρ ⟨rfl, hno⟩
      rw [rangeD_len] at hno
      refine .inl ⟨_, rfl, .ret rfl ⟨_, rfl, ?_⟩⟩
      rw [decide_eq_true_iff]
      constructor
      · intro h
        exact ⟨by omega, fun e n h1 h2 h3 h4 => hno e n h1 (by omega) h3 h4⟩
      · rintro ⟨h, _⟩
        omega
    · rintro d ⟨rfl, ni⟩
      exact .inr ⟨_, rfl, _, rfl, ⟨fun z => absurd z Bool.false_ne_true, fun z => absurd z ni⟩⟩
  obtain ⟨o, ⟨b, rfl, hb⟩, e⟩ := key
  exact ⟨b, e, hb⟩
end K02
end Y
/-! # P8 -/
set_option Elab.async false
set_option linter.all false
set_option maxRecDepth 100000
set_option maxHeartbeats 2000000
namespace Y
open Po PySem
namespace K02
def pm : List (List Int) → List Int
  | [] => [1]
  | f :: fs => mul f (pm fs)
theorem pm_app : ∀ (fs : List (List Int)) (f : List Int) (x : Int), ev (pm (fs ++ [f])) x = ev (pm fs) x * ev f x
  | [], f, x => by simp [pm, ev_mul, ev]
  | g :: fs, f, x => by
    rw [List.cons_append, pm, ev_mul, pm_app fs f x, pm, ev_mul]
    grind
/-- shorter, or as long and no greater -/
def Le (p : Int) (f g : List Int) : Prop := f.length < g.length ∨ f.length = g.length ∧ ev f p ≤ ev g p
def degs (fs : List (List Int)) : Nat := (fs.map fun f => f.length - 1).sum
theorem degs_app (fs : List (List Int)) (f : List Int) : degs (fs ++ [f]) = degs fs + (f.length - 1) := by simp [degs]
/-- what has been found and what is left, before the k-th one of degree d -/
structure FS (p : Int) (w : List Int) (fs : List (List Int)) (r : List Int) (d : Nat) (k : Int) : Prop where
  mo : Mo p r
  irr : ∀ f ∈ fs, Irr p f
  nums : ∀ f ∈ fs, ∃ e n, f = num p e n ∧ 1 ≤ e ∧ 0 ≤ n ∧ n < p ^ e ∧ (e < d ∨ e = d ∧ n ≤ k)
  srt : fs.Pairwise (Le p)
  no : ∀ (e : Nat) (n : Int), 1 ≤ e → 0 ≤ n → n < p ^ e → (e < d ∨ e = d ∧ n < k) → ¬ Dv p (num p e n) r
  deg : degs fs + (r.length - 1) = w.length - 1
  pr : ∃ h, ∀ x, ev w x = ev (pm fs) x * ev r x + p * ev h x
theorem FS.first {p : Int} {w : List Int} (m : Mo p w) : FS p w [] w 1 0 where
  mo := m
  irr := fun f h => absurd h List.not_mem_nil
  nums := fun f h => absurd h List.not_mem_nil
  srt := .nil
  no := fun e n h1 h2 h3 h4 => by omega
  deg := by simp [degs]
  pr := ⟨[], fun x => by simp [pm, ev]⟩
theorem FS.skip {p : Int} {w r : List Int} {fs : List (List Int)} {d : Nat} {k : Int} (s : FS p w fs r d k) (h : ¬ Dv p (num p d k) r) : FS p w fs r d (k + 1) :=
  { s with
    nums := fun f hf => by
      obtain ⟨e, n, h1, h2, h3, h4, h5⟩ := s.nums f hf
      exact ⟨e, n, h1, h2, h3, h4, by omega⟩
    no := fun e n h1 h2 h3 h4 => by
      by_cases hn : e = d ∧ n = k
      · rw [hn.1, hn.2]; exact h
      · exact s.no e n h1 h2 h3 (by omega) }
theorem FS.up {p : Int} {w r : List Int} {fs : List (List Int)} {d : Nat} (s : FS p w fs r d (p ^ d)) : FS p w fs r (d + 1) 0 :=
  { s with
    nums := fun f hf => by
      obtain ⟨e, n, h1, h2, h3, h4, h5⟩ := s.nums f hf
      exact ⟨e, n, h1, h2, h3, h4, by omega⟩
    no := fun e n h1 h2 h3 h4 => by
      refine s.no e n h1 h2 h3 ?_
      by_cases he : e < d
      · exact .inl he
      · have : e = d := by omega
        subst this
        exact .inr ⟨rfl, h3⟩ }
theorem le_num {p : Int} (hp : 1 < p) {e d : Nat} {n k : Int} (h0 : 0 ≤ n) (h1 : n < p ^ e) (k0 : 0 ≤ k) (k1 : k < p ^ d) (h : e < d ∨ e = d ∧ n ≤ k) : Le p (num p e n) (num p d k) := by
  unfold Le
  rw [num_len, num_len, num_ev hp h0 h1, num_ev hp k0 k1]
  rcases h with h | ⟨h, h2⟩
  · exact .inl (by omega)
  · subst h; exact .inr ⟨rfl, by omega⟩
theorem FS.take {p : Int} (hp : 1 < p) {w r q : List Int} {fs : List (List Int)} {d : Nat} {k : Int} (s : FS p w fs r d k) (hd : 1 ≤ d) (k0 : 0 ≤ k) (k1 : k < p ^ d) (dv : Dv p (num p d k) r) (mq : Mo p q) (lq : q.length = r.length - d) (hl : d + 1 ≤ r.length)
    (e : ∃ h, ∀ x, ev r x = ev q x * ev (num p d k) x + p * ev h x) : FS p w (fs ++ [num p d k]) q d k where
  mo := mq
  irr := fun f hf => by
    rcases List.mem_append.mp hf with z | z
    · exact s.irr f z
    · rw [List.mem_singleton.mp z]
      refine ⟨by rw [num_len]; omega, fun e n h1 h2 h3 h4 h5 => ?_⟩
      rw [num_len] at h2
      exact s.no e n h1 h3 h4 (by omega) (h5.trans dv)
  nums := fun f hf => by
    rcases List.mem_append.mp hf with z | z
    · exact s.nums f z
    · rw [List.mem_singleton.mp z]
      exact ⟨d, k, rfl, hd, k0, k1, .inr ⟨rfl, Int.le_refl _⟩⟩
  srt := by
    rw [List.pairwise_append]
    refine ⟨s.srt, List.pairwise_singleton _ _, fun a ha b hb => ?_⟩
    obtain ⟨e, n, rfl, h1, h2, h3, h4⟩ := s.nums a ha
    rw [List.mem_singleton.mp hb]
    exact le_num hp h2 h3 k0 k1 h4
  no := fun e' n h1 h2 h3 h4 h5 => by
    obtain ⟨h, eh⟩ := e
    refine s.no e' n h1 h2 h3 h4 (h5.trans ⟨num p d k, h, fun x => ?_⟩)
    rw [eh x]
    grind
  deg := by
    have := s.deg
    rw [degs_app, num_len]
    omega
  pr := by
    obtain ⟨h0, e0⟩ := s.pr
    obtain ⟨h1, e1⟩ := e
    refine ⟨add (mul (pm fs) h1) h0, fun x => ?_⟩
    rw [e0 x, pm_app, ev_add, ev_mul, e1 x]
    grind
/-- what comes out at the end -/
structure Fin (p : Int) (w : List Int) (L : List (List Int)) : Prop where
  mo : ∀ f ∈ L, Mo p f
  irr : ∀ f ∈ L, Irr p f
  srt : L.Pairwise (Le p)
  deg : degs L = w.length - 1
  pr : ∃ h, ∀ x, ev w x = ev (pm L) x + p * ev h x
theorem FS.end {p : Int} (hp : 1 < p) {w r : List Int} {fs : List (List Int)} {d : Nat} (s : FS p w fs r d 0) (h : r.length ≤ 2 * d) : Fin p w (if r.length > 1 then fs ++ [r] else fs) := by
  have mf : ∀ f ∈ fs, Mo p f := fun f hf => by
    obtain ⟨e, n, rfl, _⟩ := s.nums f hf
    exact num_mo hp e n
  obtain ⟨h0, e0⟩ := s.pr
  by_cases hl : r.length > 1
  · rw [if_pos hl]
    obtain ⟨n, n0, n1, en⟩ := mo_num hp s.mo
    have hge : d ≤ r.length - 1 := by
      apply Classical.byContradiction
      intro hlt
      refine s.no (r.length - 1) n (by omega) n0 n1 (.inl (by omega)) ?_
      rw [← en]
      exact Dv.refl p r
    refine ⟨fun f hf => ?_, fun f hf => ?_, ?_, ?_, h0, fun x => ?_⟩
    · rcases List.mem_append.mp hf with z | z
      · exact mf f z
      · rw [List.mem_singleton.mp z]; exact s.mo
    · rcases List.mem_append.mp hf with z | z
      · exact s.irr f z
      · rw [List.mem_singleton.mp z]
        exact ⟨hl, fun e n h1 h2 h3 h4 => s.no e n h1 h3 h4 (.inl (by omega))⟩
    · rw [List.pairwise_append]
      refine ⟨s.srt, List.pairwise_singleton _ _, fun a ha b hb => ?_⟩
      obtain ⟨e, m, rfl, h1, h2, h3, h4⟩ := s.nums a ha
      rw [List.mem_singleton.mp hb, en]
      exact le_num hp h2 h3 n0 n1 (by omega)
    · rw [degs_app]; exact s.deg
    · rw [e0 x, pm_app]
  · rw [if_neg hl]
    have l1 := s.mo.len
    have er : ∀ x, ev r x = 1 := fun x => by
      obtain ⟨c, rfl⟩ : ∃ c, r = [c] := List.length_eq_one_iff.mp (by omega)
      have : c = 1 := s.mo.top
      rw [this]
      simp [ev]
    exact ⟨mf, s.irr, s.srt, by have := s.deg; omega, h0, fun x => by rw [e0 x, er x]; grind⟩
theorem sum_ge : ∀ {fs : List (List Int)} {a : Nat}, (∀ f ∈ fs, a ≤ f.length - 1) → fs ≠ [] → a ≤ degs fs
  | [], a, _, h => absurd rfl h
  | f :: fs, a, h, _ => by
    have := h f List.mem_cons_self
    unfold degs
    rw [List.map_cons, List.sum_cons]
    omega
/-- one alone just where it is prime -/
theorem Fin.alone {p : Int} (hp : 1 < p) {w : List Int} {L : List (List Int)} (mw : Mo p w) (hw : 2 ≤ w.length) (f : Fin p w L) : L = [w] ↔ Irr p w := by
  constructor
  · intro h
    exact f.irr w (by rw [h]; exact List.mem_singleton.mpr rfl)
  · intro ir
    obtain ⟨h, e⟩ := f.pr
    match L, f, e with
    | [], f, e =>
      have := f.deg
      simp [degs] at this
      omega
    | [a], f, e =>
      have : w = a := mw.same hp (f.mo a (List.mem_singleton.mpr rfl)) (h := h) fun x => by
        rw [e x]
        simp [pm, ev_mul, ev]
      rw [this]
    | a :: b :: L, f, e =>
      exfalso
      obtain ⟨n, n0, n1, en⟩ := mo_num hp (f.mo a List.mem_cons_self)
      have la := (f.irr a List.mem_cons_self).1
      have hs : a.length - 1 ≤ degs (b :: L) := sum_ge (fun g hg => by
        have := (List.pairwise_cons.mp f.srt).1 g hg
        unfold Le at this
        omega) (by simp)
      have hd := f.deg
      unfold degs at hd hs
      rw [List.map_cons, List.sum_cons] at hd
      refine ir.2 (a.length - 1) n (by omega) (by omega) n0 n1 ?_
      rw [← en]
      exact ⟨pm (b :: L), h, fun x => by rw [e x, pm, ev_mul]; grind⟩
end K02
end Y
/-! # P9 -/
set_option Elab.async false
set_option linter.all false
set_option maxRecDepth 100000
set_option maxHeartbeats 2000000
namespace Y
open Po PySem
namespace K02
theorem iadd1 (d : Nat) : dIAdd (.int d) (.int 1) = .ok (.int (d + 1 : Nat)) := by
  show R.ok (D.int ((d : Int) + 1)) = _
  rw [show ((d : Int) + 1) = ((d + 1 : Nat) : Int) by omega]
theorem lt_nn (i j : Nat) : dLt (.int i) (.int j) = .ok (.bl (decide (i < j))) := by
  show R.ok (D.bl (decide ((i : Int) < j))) = _
  congr 2
  exact decide_eq_decide.mpr (by omega)
theorem ge_nn (i j : Nat) : dGe (.int i) (.int j) = .ok (.bl (decide (j ≤ i))) := by
  show R.ok (D.bl (decide ((j : Int) ≤ i))) = _
  congr 2
  exact decide_eq_decide.mpr (by omega)
theorem gt_nn (i j : Nat) : dGt (.int i) (.int j) = .ok (.bl (decide (j < i))) := by
  show R.ok (D.bl (decide ((j : Int) < i))) = _
  congr 2
  exact decide_eq_decide.mpr (by omega)
theorem and_dec (a b : Prop) [Decidable a] [Decidable b] {ρ : Rho} {s t : Rho → R Bool} (h : s ρ = .ok (decide a)) (h2 : t ρ = .ok (decide b)) : mAndT s t ρ = .ok (decide (a ∧ b)) := by
  by_cases ha : a
  · rw [decide_eq_true ha] at h
    rw [vAnd h h2]
    congr 1
    exact decide_eq_decide.mpr ⟨fun z => ⟨ha, z⟩, fun z => z.2⟩
  · rw [decide_eq_false ha] at h
    rw [vAndF h, decide_eq_false fun z => ha z.1]
theorem add_ll {a b : List D} (h : a.length + b.length ≤ 16777216) : dAdd (.lst a) (.lst b) = .ok (.lst (a ++ b)) := grd_ok h
theorem len_degs {p : Int} : ∀ {fs : List (List Int)}, (∀ f ∈ fs, Irr p f) → fs.length ≤ degs fs
  | [], _ => Nat.zero_le _
  | f :: fs, h => by
    have := len_degs fun g hg => h g (List.mem_cons_of_mem _ hg)
    have := (h f List.mem_cons_self).1
    unfold degs at *
    rw [List.map_cons, List.sum_cons, List.length_cons]
    omega
def tis (L : List (List Int)) : D := .tup (L.map ti)
theorem e_factors {p : Int} {w : List Int} (hp0 : 1 < p) (hp1 : p < 100) (mw : Mo p w) (hl : w.length < 900) (hpe : p ^ (w.length - 1) < 1000000) : ∃ L, f_polynomial_factors [.int p, ti w] = .ok (tis L) ∧ Fin p w L := by
  have lw := mw.len
  have key : ∃ o, (∃ L, o = .ret (tis L) ∧ Fin p w L) ∧ f_polynomial_factors [.int p, ti w] = endM o := by
    refine fun_go (.seq (.par3 (x := .ow []) (y := .sh (ti w)) (z := .sh (.int 1)) rfl rfl rfl ⟨_, rfl, .seq
      (.while (fun n ρ => ∃ fs r d, n + d = w.length + 1 ∧ 1 ≤ d ∧ r.length ≤ w.length ∧ ρ = [.sh (.int p), .sh (ti w), .ow (fs.map ti), .sh (ti r), .sh (.int (d : Nat)), .no, .no, .no, .no] ∧ FS p w fs r d 0) w.length ?_ ?_ ?_)⟩))
    · exact ⟨[], w, 1, rfl, Nat.le_refl _, Nat.le_refl _, rfl, .first mw⟩
    · rintro n ρ ⟨fs, r, d, hn, hd, hrl, rfl, s⟩
      have ht : mTb (mBin dLt (mBin dMul (mC (.int 2)) (mVarB 4)) (mBi dLen (mCons (mVarB 3) mNil))) [.sh (.int p), .sh (ti w), .ow (fs.map ti), .sh (ti r), .sh (.int (d : Nat)), .no, .no, .no, .no] = .ok (decide (2 * d < r.length)) :=
        vTb (vBin (vBin rfl rfl (z := .int (2 * d : Nat)) (by
          rw [mul_ii (.inl (by decide))]
          congr 2)) (vBi (v1 rfl) (len_ti r)) (lt_nn _ _))
      refine ⟨_, ht, fun hc => ?_⟩
      have hc := of_decide_eq_true hc
      have hpw : p ^ d < 1000000 := Int.lt_of_le_of_lt (pow_mono hp0 (show d ≤ w.length - 1 by omega)) hpe
      have hpn := pow_nat hp0 d
      refine .seq (.for (fun k ρ => ∃ fs r, r.length ≤ w.length ∧ ρ = [.sh (.int p), .sh (ti w), .ow (fs.map ti), .sh (ti r), .sh (.int (d : Nat)), .no, .no, .no, .no] ∧ FS p w fs r d k) (xs := rangeD 0 (p ^ d).toNat 1) (r1 (p ^ d).toNat (v1 (vCall (v2 rfl rfl) rfl (by rw [hpn]; exact e_power hp0 hp1 (by omega)))) (by omega)) ?_ ?_ ?_)
      · exact ⟨fs, r, hrl, rfl, s⟩
      · rintro k x ρ hx ⟨fs, r, hrl, rfl, s⟩
        obtain ⟨rfl, hk⟩ := range_mem hx
        rw [show (0 : Int) + (k : Int) = (k : Int) by omega]
        have mg := num_mo hp0 d (k : Int)
        have hgl := num_len p d (k : Int)
        have hg1 : co (num p d (k : Int)) d = 1 := by have := mg.top; rw [hgl, Nat.add_sub_cancel] at this; exact this
        have hk1 : (k : Int) < p ^ d := by omega
        refine ⟨_, rfl, .seq (.set (d := ti (num p d k)) (vCall (vCons rfl (vCons rfl (v1 rfl))) rfl (e_num hp0 hp1 (by omega) (k : Int))) ⟨_, rfl, ?_⟩)⟩
        obtain ⟨q, l, er, dv⟩ := e_rest hp0 hp1 s.mo.rd mg.rd hgl hg1 (by omega : r.length < 1000) (by omega : d < 1000)
        refine .seq (.asg (d := .tup [ti (trim q), ti (trim l)]) (vCall (vCons rfl (vCons rfl (v1 rfl))) rfl er) rfl ⟨_, rfl, ?_⟩)
        refine .seq (.while (fun n ρ => ∃ fs r q l, n = r.length ∧ r.length ≤ w.length ∧ ρ = [.sh (.int p), .sh (ti w), .ow (fs.map ti), .sh (ti r), .sh (.int (d : Nat)), .sh (.int k), .sh (ti (num p d k)), .sh (ti (trim q)), .sh (ti (trim l))] ∧ FS p w fs r d k ∧ Div p r (num p d k) d (r.length - d) q l) r.length ⟨fs, r, q, l, rfl, hrl, rfl, s, dv⟩ ?_ ?_)
        · rintro n ρ ⟨fs, r, q, l, rfl, hrl, rfl, s, dv⟩
          refine ⟨_, and_dec (trim l = []) (d + 1 ≤ r.length) (vTb (vBin rfl rfl (eq_tt (trim l) []))) (vTb (vBin (vBi (v1 rfl) (len_ti r)) (vBi (v1 rfl) (by rw [len_ti, hgl])) (ge_nn _ _))), fun hc => ?_⟩
          have hc := of_decide_eq_true hc
          have dd := (dv.left hp0 mg hgl).mp hc.1
          obtain ⟨g1, g2, g3, g4, g5⟩ := dv.quot hp0 s.mo mg hgl dd
          have s2 := s.take hp0 hd (by omega) hk1 dd g3 g4 g1 g5
          have hfs : fs.length ≤ w.length := by
            have h1 := s.deg
            have := len_degs s.irr
            omega
          obtain ⟨q2, l2, er2, dv2⟩ := e_rest hp0 hp1 g3.rd mg.rd hgl hg1 (by omega : q.length < 1000) (by omega : d < 1000)
          refine .seq (.app rfl rfl (by rw [List.length_map]; omega) ⟨_, rfl, .seq (.set rfl ⟨_, rfl, .asg (d := .tup [ti (trim q2), ti (trim l2)]) (vCall (vCons rfl (vCons rfl (v1 rfl))) rfl ?_) rfl ⟨_, q.length, rfl, ?_, _, q, q2, l2, rfl, ?_, ?_, s2, dv2⟩⟩)⟩)
          · rw [g2]; exact er2
          · omega
          · omega
          · rw [List.map_append, g2]
            rfl
        · rintro ρ n ⟨fs, r, q, l, rfl, hrl, rfl, s, dv⟩ hf
          rw [and_dec (trim l = []) (d + 1 ≤ r.length) (vTb (vBin rfl rfl (eq_tt (trim l) []))) (vTb (vBin (vBi (v1 rfl) (len_ti r)) (vBi (v1 rfl) (by rw [len_ti, hgl])) (ge_nn _ _)))] at hf
          have hf := of_decide_eq_false (R.ok.inj hf)
          refine ⟨_, rfl, .no (.no (.no (.no (.skip ⟨_, rfl, fs, r, hrl, rfl, s.skip fun dd => hf ⟨(dv.left hp0 mg hgl).mpr dd, (dv.quot hp0 s.mo mg hgl dd).1⟩⟩))))⟩
      · rintro ρ ⟨fs, r, hrl, rfl, s⟩
        rw [rangeD_len, hpn] at s
        refine ⟨_, rfl, .seq (.aug rfl rfl (iadd1 d) ⟨_, rfl, .no (.no (.no (.no (.skip ⟨_, n - 1, rfl, by omega, fs, r, d + 1, by omega, by omega, hrl, rfl, s.up⟩))))⟩)⟩
    · rintro ρ n ⟨fs, r, d, hn, hd, hrl, rfl, s⟩ hf
      have ht : mTb (mBin dLt (mBin dMul (mC (.int 2)) (mVarB 4)) (mBi dLen (mCons (mVarB 3) mNil))) [.sh (.int p), .sh (ti w), .ow (fs.map ti), .sh (ti r), .sh (.int (d : Nat)), .no, .no, .no, .no] = .ok (decide (2 * d < r.length)) :=
        vTb (vBin (vBin rfl rfl (z := .int (2 * d : Nat)) (by
          rw [mul_ii (.inl (by decide))]
          congr 2)) (vBi (v1 rfl) (len_ti r)) (lt_nn _ _))
      rw [ht] at hf
      have hf := of_decide_eq_false (R.ok.inj hf)
      have fin := s.end hp0 (by omega)
      have htt : mTb (mBin dGt (mBi dLen (mCons (mVarB 3) mNil)) (mC (.int 1))) [.sh (.int p), .sh (ti w), .ow (fs.map ti), .sh (ti r), .sh (.int (d : Nat)), .no, .no, .no, .no] = .ok (decide (1 < r.length)) :=
        vTb (vBin (vBi (v1 rfl) (len_ti r)) rfl (gt_nn r.length 1))
      by_cases h1 : 1 < r.length
      · rw [if_pos h1] at fin
        rw [decide_eq_true h1] at htt
        have hfs := len_degs s.irr
        have hdg := s.deg
        exact ⟨_, rfl, .ret (d := .tup (fs.map ti ++ [ti r])) (vIfT htt (vTupL (vBin rfl (vFrz (vLst (v1 rfl) (by show 1 ≤ 16777216; decide))) (add_ll (by rw [List.length_map]; show fs.length + 1 ≤ _; omega))))) ⟨fs ++ [r], by unfold tis; rw [List.map_append]; rfl, fin⟩⟩
      · rw [if_neg h1] at fin
        rw [decide_eq_false h1] at htt
        exact ⟨_, rfl, .ret (d := tis fs) (vIfF htt (vTupL rfl)) ⟨_, rfl, fin⟩⟩
  obtain ⟨o, ⟨L, rfl, f⟩, e⟩ := key
  exact ⟨L, e, f⟩
end K02
end Y
/-! # P10 -/
set_option Elab.async false
set_option linter.all false
set_option maxRecDepth 100000
set_option maxHeartbeats 2000000
namespace Y
open Po PySem
theorem sk_app (a b : Str) : PyData.strOk (a ++ b) = (PyData.strOk a && PyData.strOk b) := by
  show PyData.strOk (⟨a.cps ++ b.cps⟩ : Str) = _
  unfold PyData.strOk
  rw [Array.all_append]
theorem sl_app (a b : Str) : (a ++ b : Str).length = a.length + b.length := strLen_append a b
theorem shown_int {i : Int} (h0 : 0 ≤ i) (h1 : i < 100) : (PyData.int i).shown.length ≤ 2 ∧ PyData.strOk (PyData.int i).shown = true := by
  have h : ∀ n : Nat, n < 100 → (PyData.int (n : Int)).shown.length ≤ 2 ∧ PyData.strOk (PyData.int (n : Int)).shown = true := by decide +kernel
  have := h i.toNat (by omega)
  rw [Int.toNat_of_nonneg h0] at this
  exact this
/-- texts of at most k signs each -/
def Short (k : Nat) (ts : List Str) : Prop := ∀ t ∈ ts, t.length ≤ k ∧ PyData.strOk t = true
theorem piled_le {k : Nat} : ∀ {ts : List Str}, Short k ts → piled ts ≤ (k + 2) * ts.length
  | [], _ => by rw [piled_nil]; exact Nat.zero_le _
  | t :: ts, h => by
    have h1 := (h t List.mem_cons_self).1
    have h2 := piled_le (ts := ts) fun u hu => h u (List.mem_cons_of_mem _ hu)
    rw [piled_cons, List.length_cons, Nat.mul_succ]
    omega
theorem join_ok : ∀ {ts : List Str}, (∀ t ∈ ts, PyData.strOk t = true) → PyData.strOk (Str.join ", " ts) = true
  | [], _ => by decide +kernel
  | [x], h => h x List.mem_cons_self
  | x :: y :: r, h => by
    show PyData.strOk (x ++ ", " ++ Str.join ", " (y :: r)) = true
    have e : PyData.strOk (", " : Str) = true := by decide +kernel
    rw [sk_app, sk_app, h x List.mem_cons_self, e, join_ok fun t ht => h t (List.mem_cons_of_mem _ ht)]
    rfl
theorem tuple_short {k : Nat} {ts : List Str} (h : Short k ts) : (tupleText ts).length ≤ 3 + (k + 2) * ts.length ∧ PyData.strOk (tupleText ts) = true := by
  have hp := piled_le h
  have hj : (Str.join ", " ts).length ≤ piled ts := by
    by_cases e : ts = []
    · subst e
      decide +kernel
    · have := join_length_add ts e
      omega
  unfold tupleText
  constructor
  · rw [sl_app, sl_app]
    have h1 : (("(" : String) : Str).length = 1 := rfl
    have h2 : ((if ts.length == 1 then ",)" else ")" : String) : Str).length ≤ 2 := by
      split
      · exact Nat.le_of_eq rfl
      · exact Nat.le_of_lt (by decide +kernel)
    omega
  · rw [sk_app, sk_app, join_ok fun t ht => (h t ht).2]
    have h1 : PyData.strOk (("(" : String) : Str) = true := by decide +kernel
    have h2 : PyData.strOk ((if ts.length == 1 then ",)" else ")" : String) : Str) = true := by
      split <;> decide +kernel
    rw [h1, h2]
    rfl
theorem shownAll_map (ds : List PyData) : PyData.shownAll ds = ds.map PyData.shown := by
  induction ds with
  | nil => rfl
  | cons d ds ih => rw [PyData.shownAll, ih]; rfl
theorem showAll_all (ds : List PyData) : PyData.showableAll ds = ds.all PyData.showable := by
  induction ds with
  | nil => rfl
  | cons d ds ih => rw [PyData.showableAll, ih]; rfl
theorem log_small {i : Int} (h0 : 0 ≤ i) (h1 : i < 100) : i.natAbs.log2 < 1920 := by
  by_cases h : i = 0
  · subst h; decide
  · have h2 : i.natAbs < 2 ^ 7 := by omega
    have : i.natAbs.log2 < 7 := (Nat.log2_lt (by omega)).mpr h2
    omega
theorem ti_show {l : List Int} (h : Rd 100 l) : (ti l).py.showable = true ∧ (ti l).py.shown.length ≤ 3 + 4 * l.length ∧ PyData.strOk (ti l).py.shown = true ∧ (ti l).py.depth = 1 ∧ (ti l).plain = true := by
  obtain ⟨h1, h2⟩ := py_ints l
  obtain ⟨h3, h4⟩ := lay_ints l
  have e : (ti l).py = .tuple (l.map PyData.int) := by unfold ti D.py; rw [h1]
  rw [e]
  have sh : Short 2 (PyData.shownAll (l.map PyData.int)) := fun t ht => by
    rw [shownAll_map, List.map_map] at ht
    obtain ⟨i, hi, rfl⟩ := List.mem_map.mp ht
    exact shown_int (h i hi).1 (h i hi).2
  have sl : (PyData.shownAll (l.map PyData.int)).length = l.length := by rw [shownAll_map, List.length_map, List.length_map]
  obtain ⟨t1, t2⟩ := tuple_short sh
  rw [sl] at t1
  refine ⟨?_, ?_, ?_, ?_, ?_⟩
  · rw [PyData.showable, showAll_all, List.all_eq_true]
    intro d hd
    obtain ⟨i, hi, rfl⟩ := List.mem_map.mp hd
    rw [PyData.showable]
    exact decide_eq_true (log_small (h i hi).1 (h i hi).2)
  · rw [PyData.shown]; exact t1
  · rw [PyData.shown]; exact t2
  · rw [PyData.depth, h4]
  · unfold ti D.plain; exact h2
namespace K02
theorem py_rows : ∀ L : List (List Int), D.pyL (L.map ti) = L.map (fun ns => .tuple (ns.map PyData.int)) ∧ D.plainL (L.map ti) = true
  | [] => ⟨by simp [D.pyL], by simp [D.plainL]⟩
  | l :: L => by
    obtain ⟨h1, h2⟩ := py_rows L
    obtain ⟨h3, h4⟩ := py_ints l
    exact ⟨by simp [D.pyL, ti, D.py, h1, h3], by simp [D.plainL, ti, D.plain, h2, h4]⟩
theorem tis_show {L : List (List Int)} {k : Nat} (h : ∀ l ∈ L, Rd 100 l ∧ l.length ≤ k) : (tis L).py.showable = true ∧ (tis L).py.shown.length ≤ 3 + (5 + 4 * k) * L.length ∧ PyData.strOk (tis L).py.shown = true ∧ (tis L).py.depth ≤ 2 ∧ (tis L).plain = true := by
  obtain ⟨h1, h2⟩ := py_rows L
  obtain ⟨h3, h4⟩ := lay_rows L
  have e : (tis L).py = .tuple (L.map (fun ns => .tuple (ns.map PyData.int))) := by unfold tis D.py; rw [h1]
  rw [e]
  have one : ∀ l ∈ L, (PyData.tuple (l.map PyData.int)) = (ti l).py := fun l _ => by
    obtain ⟨a, _⟩ := py_ints l
    unfold ti D.py; rw [a]
  have sh : Short (3 + 4 * k) (PyData.shownAll (L.map (fun ns => .tuple (ns.map PyData.int)))) := fun t ht => by
    rw [shownAll_map, List.map_map] at ht
    obtain ⟨l, hl, rfl⟩ := List.mem_map.mp ht
    obtain ⟨_, g2, g3, _, _⟩ := ti_show (h l hl).1
    show (PyData.tuple (l.map PyData.int)).shown.length ≤ _ ∧ PyData.strOk (PyData.tuple (l.map PyData.int)).shown = true
    rw [one l hl]
    have := (h l hl).2
    exact ⟨by omega, g3⟩
  have sl : (PyData.shownAll (L.map (fun ns => .tuple (ns.map PyData.int)))).length = L.length := by rw [shownAll_map, List.length_map, List.length_map]
  obtain ⟨t1, t2⟩ := tuple_short sh
  rw [sl] at t1
  refine ⟨?_, ?_, ?_, ?_, ?_⟩
  · rw [PyData.showable, showAll_all, List.all_eq_true]
    intro d hd
    obtain ⟨l, hl, rfl⟩ := List.mem_map.mp hd
    show (PyData.tuple (l.map PyData.int)).showable = true
    rw [one l hl]
    exact (ti_show (h l hl).1).1
  · rw [PyData.shown, show 5 + 4 * k = 3 + 4 * k + 2 by omega]; exact t1
  · rw [PyData.shown]; exact t2
  · rw [PyData.depth]; omega
  · unfold tis D.plain; exact h2
theorem repr_ti {l : List Int} (h : Rd 100 l) (hl : l.length ≤ 1000) : dRepr [ti l] = .ok (.str (ti l).py.shown) := by
  obtain ⟨h1, h2, h3, h4, h5⟩ := ti_show h
  have e : repOk (ti l) = true := by
    unfold repOk
    rw [h5, h1, decide_eq_true (by omega), decide_eq_true (by omega)]
    rfl
  exact grd_ok e
theorem repr_tis {L : List (List Int)} {k : Nat} (h : ∀ l ∈ L, Rd 100 l ∧ l.length ≤ k) (hk : k ≤ 100) (hl : L.length ≤ 1000) : dRepr [tis L] = .ok (.str (tis L).py.shown) := by
  obtain ⟨h1, h2, h3, h4, h5⟩ := tis_show h
  have hm : (5 + 4 * k) * L.length ≤ 405 * 1000 := Nat.mul_le_mul (by omega) hl
  have e : repOk (tis L) = true := by
    unfold repOk
    rw [h5, h1, decide_eq_true (by omega), decide_eq_true (by omega)]
    rfl
  exact grd_ok e
theorem str_self {s : Str} (h : PyData.strOk s = true) : dEq (.str s) (.str s) = .ok (.bl true) ∧ dNe (.str s) (.str s) = .ok (.bl false) := by
  have c : cmpOk (.str s) (.str s) = true := by simp [cmpOk, D.plain, D.py, SeqAt.shaped, PyData.canLay0, PyData.depth, h]
  have e : PyData.eqv (D.str s).py (D.str s).py = true := by simp [D.py, PyData.eqv]
  unfold dEq dNe
  rw [grd_ok c, grd_ok c, e]
  exact ⟨rfl, rfl⟩
theorem eq_rr (a b : List (List Int)) : dEq (tis a) (tis b) = .ok (.bl (decide (a = b))) := by
  obtain ⟨a1, a2⟩ := py_rows a
  obtain ⟨b1, b2⟩ := py_rows b
  have h : cmpOk (tis a) (tis b) = true := by simp [cmpOk, tis, D.plain, D.py, a1, a2, b1, b2, shaped_rows]
  unfold dEq
  rw [grd_ok h]
  simp only [tis, D.py, PyData.eqv, a1, b1, eqvAll_rows]
theorem ne_lrows (a b : List (List Int)) : dNe (.lst (a.map ti)) (.lst (b.map ti)) = .ok (.bl (!decide (a = b))) := by
  obtain ⟨a1, a2⟩ := py_rows a
  obtain ⟨b1, b2⟩ := py_rows b
  have h : cmpOk (.lst (a.map ti)) (.lst (b.map ti)) = true := by simp [cmpOk, D.plain, D.py, a1, a2, b1, b2, shaped_lrows]
  unfold dNe
  rw [grd_ok h]
  simp only [D.py, PyData.eqv, a1, b1, eqvAll_rows]
end K02
end Y
/-! # P11 -/
set_option Elab.async false
set_option linter.all false
set_option maxRecDepth 100000
set_option maxHeartbeats 2000000
namespace Y
open Po PySem
/-- a list or a tuple of these ints -/
def Row (d : D) (l : List Int) : Prop := d = ti l ∨ d = li l
theorem Row.len {d : D} {l : List Int} (h : Row d l) : dLen [d] = .ok (.int l.length) := by
  rcases h with rfl | rfl
  · exact len_ti l
  · exact len_li l
theorem Row.enum {d : D} {l : List Int} (h : Row d l) : dEnum [d] = .ok (enumD (l.map D.int)) := by
  rcases h with rfl | rfl <;> rfl
theorem en_ints {l : List Int} {i : Nat} {d : D} (h : (enumD (l.map D.int))[i]? = some d) : i < l.length ∧ d = .tup [.int (i : Nat), .int (co l i)] := by
  obtain ⟨z, hz, rfl⟩ := en_mem h
  rw [List.getElem?_map] at hz
  cases hg : l[i]? with
  | none => rw [hg] at hz; cases hz
  | some c =>
    rw [hg] at hz
    cases hz
    obtain ⟨hi, e⟩ := List.getElem?_eq_some_iff.mp hg
    exact ⟨hi, by rw [co_get hi, e]⟩
theorem rd_zeros {p : Int} (hp : 0 < p) (n : Nat) : Rd p (List.replicate n 0) := fun c hc => by rw [List.eq_of_mem_replicate hc]; omega
theorem co_take {l : List Int} {n i : Nat} (h : i < n) : co (l.take n) i = co l i := by
  unfold co
  rw [List.getD_eq_getElem?_getD, List.getElem?_take, if_pos h, List.getD_eq_getElem?_getD]
namespace K02
theorem e_ltrim {l : List Int} (hl : l.length < 100000) : f_l_trimmed [li l] = .ok (ti (trim l)) := by
  refine fun_ok (.seq (.own (ds := l.map D.int) rfl ⟨_, rfl, .seq (.while (fun n ρ => ∃ l', n = l'.length ∧ ρ = [.sh (li l), .ow (l'.map D.int)] ∧ trim l = trim l') l.length ⟨l, rfl, rfl, rfl⟩ ?_ ?_)⟩))
  · rintro n ρ ⟨l', rfl, rfl, ht⟩
    have h1 : mTb (mBin dNe (mVarB 1) (mFrz (mLst mNil))) [.sh (li l), .ow (l'.map D.int)] = .ok (!decide (l' = [])) := vTb (vBin rfl (vFrz (vLst rfl (by show 0 ≤ 16777216; decide))) (ne_ll l' []))
    rcases List.eq_nil_or_concat l' with z | ⟨l2, c, z⟩
    · subst z
      exact ⟨false, vAndF h1, fun q => absurd q Bool.false_ne_true⟩
    · rw [List.concat_eq_append] at z
      subst z
      rw [decide_eq_false (by simp)] at h1
      have hc : co (l2 ++ [c]) ((l2 ++ [c]).length - 1) = c := by
        rw [co_get (by simp)]
        simp
      refine ⟨decide (c = 0), vAnd h1 (vTb (vBin (vBin rfl rfl (show dIx (li (l2 ++ [c])) (.int (-1)) = .ok (.int c) from by have := last_li (l := l2 ++ [c]) (by simp); rw [hc] at this; exact this)) rfl (eq_ii c 0))), fun q => ?_⟩
      have hz := of_decide_eq_true q
      subst hz
      refine .popS (d := .int 0) rfl (by simp) ⟨_, l2.length, rfl, by simp, l2, rfl, by simp, ?_⟩
      rw [ht, trim_zero]
  · rintro ρ n ⟨l', rfl, rfl, ht⟩ hf
    have h1 : mTb (mBin dNe (mVarB 1) (mFrz (mLst mNil))) [.sh (li l), .ow (l'.map D.int)] = .ok (!decide (l' = [])) := vTb (vBin rfl (vFrz (vLst rfl (by show 0 ≤ 16777216; decide))) (ne_ll l' []))
    have h4 : trim l = l' := by
      rw [ht]
      rcases List.eq_nil_or_concat l' with z | ⟨l2, c, z⟩
      · subst z; rfl
      · rw [List.concat_eq_append] at z
        subst z
        rw [decide_eq_false (by simp)] at h1
        have hc : co (l2 ++ [c]) ((l2 ++ [c]).length - 1) = c := by
          rw [co_get (by simp)]
          simp
        rw [vAnd h1 (vTb (vBin (vBin rfl rfl (show dIx (li (l2 ++ [c])) (.int (-1)) = .ok (.int c) from by have := last_li (l := l2 ++ [c]) (by simp); rw [hc] at this; exact this)) rfl (eq_ii c 0)))] at hf
        exact trim_top l2 c (of_decide_eq_false (R.ok.inj hf))
    refine ⟨_, rfl, .ret (d := ti (trim l)) ?_ rfl⟩
    rw [h4]
    exact vTupL rfl
theorem e_product {p : Int} {a b : List Int} {A B : D} (hp0 : 1 < p) (hp1 : p < 100) (ma : Mo p a) (mb : Mo p b) (rA : Row A a) (rB : Row B b) (hla : a.length < 1000) (hlb : b.length < 1000) :
    ∃ c, f_l_product [.int p, A, B] = .ok (ti c) ∧ Mo p c ∧ c.length = a.length + b.length - 1 ∧ ∃ h, ∀ x, ev c x = ev a x * ev b x + p * ev h x := by
  have la := ma.len
  have lb := mb.len
  have key : ∃ o, (∃ F, o = .ret (ti (trim F)) ∧ F.length = a.length + b.length ∧ Rd p F ∧ ∃ h, ∀ x, ev a x * ev b x = ev F x + p * ev h x) ∧ f_l_product [.int p, A, B] = endM o := by
    refine fun_go (.seq (.own (ds := (List.replicate (a.length + b.length) 0).map D.int) ?_ ⟨_, rfl, .seq
      (.for (fun i ρ => ∃ F, ρ = [.sh (.int p), .sh A, .sh B, .ow (F.map D.int), .no, .no, .no, .no] ∧ F.length = a.length + b.length ∧ Rd p F ∧ ∃ h, ∀ x, ev (a.take i) x * ev b x = ev F x + p * ev h x) (xs := enumD (a.map D.int)) ?_ ?_ ?_ ?_)⟩))
    · rw [List.map_replicate]
      exact vMulL rfl (vBin (vBi (v1 rfl) rA.len) (vBi (v1 rfl) rB.len) (add_nn _ _)) (by omega)
    · exact rA.enum
    · exact ⟨_, rfl, List.length_replicate, rd_zeros (by omega) _, [], fun x => by rw [ev_zeros]; simp [ev]⟩
    · rintro i y ρ hy ⟨F, rfl, lF, rF, h, e⟩
      obtain ⟨hi, rfl⟩ := en_ints hy
      have ai := ma.rd.co (show 0 < p by omega) i
      refine ⟨_, rfl, .seq (.for (fun j ρ => ∃ F, ρ = [.sh (.int p), .sh A, .sh B, .ow (F.map D.int), .sh (.int (i : Nat)), .sh (.int (co a i)), .no, .no] ∧ F.length = a.length + b.length ∧ Rd p F ∧ ∃ h, ∀ x, ev (a.take i) x * ev b x + x ^ i * co a i * ev (b.take j) x = ev F x + p * ev h x) (xs := enumD (b.map D.int)) rB.enum ⟨F, rfl, lF, rF, h, fun x => by rw [← e x]; simp [ev]⟩ ?_ ?_)⟩
      · rintro j z ρ hz ⟨F, rfl, lF, rF, h, e⟩
        obtain ⟨hj, rfl⟩ := en_ints hz
        have v0 := Int.emod_nonneg (co F (i + j) + co a i * co b j) (show p ≠ 0 by omega)
        have v1' := Int.emod_lt_of_pos (co F (i + j) + co a i * co b j) (show 0 < p by omega)
        have vd := Int.emod_add_mul_ediv (co F (i + j) + co a i * co b j) p
        refine ⟨_, rfl, .seq (.store (v := .int ((co F (i + j) + co a i * co b j) % p)) (j := ((i + j : Nat) : Int)) (n := i + j) rfl ?_ (vBin rfl rfl (add_nn i j)) (ixN_nat (by rw [li_len]; omega)) ⟨_, rfl, .no (.no (.skip ⟨_, rfl, F.set (i + j) ((co F (i + j) + co a i * co b j) % p), ?_, by rw [List.length_set]; exact lF, rd_set rF v0 v1', add h (mono (i + j) ((co F (i + j) + co a i * co b j) / p)), fun x => ?_⟩))⟩)⟩
        · exact vBin (vBi (v1 (vBin (vBin rfl (vBin rfl rfl (add_nn i j)) (ix_li (by omega))) (vBin rfl rfl (mul_ii (.inl (sm_rd ai.1 ai.2 hp1)))) rfl)) rfl) rfl (mod_ii (by omega))
        · rw [map_set F]
          rfl
        · have y := e x
          rw [ev_take_succ hj, ev_set _ _ _ _ (by omega), ev_add, ev_mono, Int.pow_add]
          have : (co F (i + j) + co a i * co b j) % p = co F (i + j) + co a i * co b j - p * ((co F (i + j) + co a i * co b j) / p) := by omega
          rw [this]
          grind
      · rintro ρ ⟨F, rfl, lF, rF, h, e⟩
        rw [enumD_len, li_len, List.take_length] at e
        refine ⟨_, rfl, .no (.no (.no (.no (.skip ⟨_, rfl, F, rfl, lF, rF, h, fun x => ?_⟩))))⟩
        rw [← e x, ev_take_succ hi]
        grind
    · rintro ρ ⟨F, rfl, lF, rF, h, e⟩
      rw [enumD_len, li_len, List.take_length] at e
      exact ⟨_, rfl, .frz rfl (.ret (d := ti (trim F)) (vCall (v1 rfl) rfl (e_ltrim (by omega))) ⟨F, rfl, lF, rF, h, e⟩)⟩
  obtain ⟨o, ⟨F, rfl, lF, rF, h, e⟩, eq⟩ := key
  -- the top of the product
  obtain ⟨n, en⟩ : ∃ n, a.length = n + 1 := ⟨a.length - 1, by omega⟩
  obtain ⟨m, em⟩ : ∃ m, b.length = m + 1 := ⟨b.length - 1, by omega⟩
  have hb1 : co b m = 1 := by have := mb.top; rw [em, Nat.add_sub_cancel] at this; exact this
  obtain ⟨a', ea⟩ : ∃ a', a = a' ++ [1] ∧ a'.length = n := by
    rcases List.eq_nil_or_concat a with z | ⟨a', c, z⟩
    · exact absurd z ma.ne
    · rw [List.concat_eq_append] at z
      subst z
      have hl : a'.length = n := by simpa using en
      have t := ma.top
      rw [en, Nat.add_sub_cancel, ← hl, co_get (by simp)] at t
      simp at t
      exact ⟨a', by rw [t], hl⟩
  have e2 : ∀ x, ev (add (mul a' b) (List.replicate n 0 ++ b)) x = ev F x + p * ev h x := fun x => by
    rw [← e x, ea.1, ev_add, ev_mul, ev_app, ev_app, ev_zeros, List.length_replicate, ea.2]
    simp only [ev]
    grind
  have cb : ∀ k, co (List.replicate n 0 ++ b) (n + k) = co b k := fun k => by
    unfold co
    rw [List.getD_eq_getElem?_getD, List.getElem?_append_right (by simp), List.length_replicate, Nat.add_sub_cancel_left, List.getD_eq_getElem?_getD]
  have c1 := co_of e2 (n + m)
  rw [Po.co_add, co_big (Nat.le_trans (len_mul a' b em) (by omega)), cb, hb1] at c1
  have c2 := co_of e2 (n + (m + 1))
  rw [Po.co_add, co_big (Nat.le_trans (len_mul a' b em) (by omega)), cb, co_big (l := b) (by omega)] at c2
  have r1 := rF.co (show 0 < p by omega) (n + m)
  have r2 := rF.co (show 0 < p by omega) (n + (m + 1))
  have t1 : co F (n + m) = 1 := by
    have hd : p ∣ 1 - co F (n + m) := ⟨co h (n + m), by omega⟩
    have := Int.eq_zero_of_dvd_of_natAbs_lt_natAbs hd (by omega)
    omega
  have t2 : co F (n + (m + 1)) = 0 := by
    have hd : p ∣ co F (n + (m + 1)) := ⟨- co h (n + (m + 1)), by rw [Int.mul_neg]; omega⟩
    exact Int.eq_zero_of_dvd_of_natAbs_lt_natAbs hd (by omega)
  have sp : F = F.take (n + m + 1) ++ [0] := by
    have d : F.drop (n + m + 1) = [0] := by
      have l1 : (F.drop (n + m + 1)).length = 1 := by rw [List.length_drop]; omega
      obtain ⟨c, hc⟩ := List.length_eq_one_iff.mp l1
      have : c = co F (n + (m + 1)) := by
        rw [co_get (by omega)]
        have g : (F.drop (n + m + 1))[0]? = some c := by rw [hc]; rfl
        rw [List.getElem?_drop] at g
        obtain ⟨_, g⟩ := List.getElem?_eq_some_iff.mp g
        exact g.symm
      rw [hc, this, t2]
    rw [← d, List.take_append_drop]
  have lt : (F.take (n + m + 1)).length = n + m + 1 := by rw [List.length_take]; omega
  have tt : co (F.take (n + m + 1)) ((F.take (n + m + 1)).length - 1) = 1 := by
    rw [lt, Nat.add_sub_cancel, co_take (by omega), t1]
  have nt : F.take (n + m + 1) ≠ [] := fun z => by rw [z] at lt; simp at lt
  have et : trim F = F.take (n + m + 1) := by
    rw [sp, trim_zero, ← sp]
    exact trim_id nt (by rw [tt]; decide)
  rw [et] at eq
  refine ⟨_, eq, ⟨rd_take rF _, nt, tt⟩, by rw [lt]; omega, scl (-1) h, fun x => ?_⟩
  have : ev F x = ev (F.take (n + m + 1)) x := by rw [← et, trim_ev]
  rw [← this, ev_scl, e x]
  grind
theorem e_key {p : Int} {f : List Int} (hp0 : 1 < p) (hp1 : p < 100) (mf : Mo p f) (hl : f.length < 1000) : f_l_key [.int p, ti f] = .ok (pairD ((f.length : Int), ev f p)) := by
  refine fun_ok (.seq (.set (d := .int 0) rfl ⟨_, rfl, .seq (.for (fun i ρ => ρ = [.sh (.int p), .sh (ti f), .sh (.int (ev (f.drop (f.length - i)) p)), .no]) (xs := (f.map D.int).reverse) rfl ?_ ?_ ?_)⟩))
  · rw [Nat.sub_zero, List.drop_length]
    rfl
  · rintro i x ρ hx rfl
    obtain ⟨hi, _⟩ := List.getElem?_eq_some_iff.mp hx
    rw [List.length_reverse, li_len] at hi
    rw [List.getElem?_reverse (by rw [li_len]; exact hi), li_len, List.getElem?_map, List.getElem?_eq_getElem (by omega)] at hx
    cases hx
    have e1 : ev (f.drop (f.length - (i + 1))) p = f[f.length - 1 - i] + p * ev (f.drop (f.length - i)) p := by
      have hlt : f.length - (i + 1) < f.length := by omega
      rw [List.drop_eq_getElem_cons hlt, ev]
      have e3 : f.length - (i + 1) + 1 = f.length - i := by omega
      rw [e3]
      congr 2
      omega
    refine ⟨_, rfl, .seq (.set (d := .int (ev (f.drop (f.length - i)) p * p + f[f.length - 1 - i])) (vBin (vBin rfl rfl (mul_ii (.inr (sm64 hp0 hp1)))) rfl rfl) ⟨_, rfl, .no (.skip ⟨_, rfl, ?_⟩)⟩)⟩
    rw [e1, Int.add_comm, Int.mul_comm]
    rfl
  · rintro ρ rfl
    rw [List.length_reverse, li_len, Nat.sub_self, List.drop_zero]
    refine ⟨_, rfl, .ret (d := pairD ((f.length : Int), ev f p)) (vTup (v2 (vBi (v1 rfl) (len_ti f)) rfl) (by show 2 ≤ 16777216; decide)) rfl⟩
end K02
end Y
/-! # P12a -/
set_option Elab.async false
set_option linter.all false
set_option maxRecDepth 100000
set_option maxHeartbeats 2000000
namespace Y
open Po PySem
namespace K02
def isT : R D → Bool
  | .ok (.bl b) => b
  | _ => false
def cnt (p : Int) (d : Nat) : Nat := ((List.range (p ^ d).toNat).filter fun (k : Nat) => isT (f_l_is_prime [.int p, li (num p d k)])).length
def ps : List Int := [2, 3, 5, 7, 11, 13, 17, 19, 23, 29, 31, 37, 41, 43, 47]
def moe : Nat → Int
  | 1 => 1
  | 2 => -1
  | 3 => -1
  | 4 => 0
  | 5 => -1
  | _ => 0
def divs (d : Nat) : List Nat := ((List.range d).map (1 + ·)).filter fun e => decide (d % e = 0)
def most (c p : Int) : Nat := ((List.range 11).filter fun (i : Nat) => decide (p ^ (1 + i) ≤ c)).length
theorem count_ok : ∀ p ∈ ps, ∀ d ∈ List.range 6, 1 ≤ d → p ^ d ≤ 49 → (d : Int) * ((cnt p d : Nat) : Int) = ((divs d).map fun e => moe (d / e) * p ^ e).sum := by decide +kernel
theorem most_a : ∀ p ∈ ps, 1 < p ∧ p < 100 ∧ p ^ most 2401 p ≤ 2401 ∧ 1 ≤ most 2401 p ∧ most 2401 p ≤ 11 ∧ 1 ≤ most 49 p ∧ most 49 p ≤ 5 := by decide +kernel
theorem most_b : ∀ p ∈ ps, ∀ r ∈ List.range (most 49 p), p ^ (1 + r) ≤ 49 := by decide +kernel
end K02
end Y
/-! # P12 -/
set_option Elab.async false
set_option linter.all false
set_option maxRecDepth 100000
set_option maxHeartbeats 2000000
namespace Y
open Po PySem
theorem cLoop_fil {α : Type} {b : Bnd} {t : Rho → R Bool} {e : Rho → R D} {ρ : Rho} (F : α → D) (P : α → Bool) (G : α → D) : ∀ ys : List α, (∀ y ∈ ys, ∃ ρ1, b (F y) ρ = some ρ1 ∧ t ρ1 = .ok (P y) ∧ (P y = true → e ρ1 = .ok (G y))) → cLoop b t e ρ (ys.map F) = .ok ((ys.filter P).map G)
  | [], _ => rfl
  | y :: ys, h => by
    obtain ⟨ρ1, h1, h2, h3⟩ := h y List.mem_cons_self
    have ih := cLoop_fil F P G ys fun z hz => h z (List.mem_cons_of_mem _ hz)
    rw [List.map_cons]
    unfold cLoop
    rw [h1]
    show (t ρ1).nb _ = _
    rw [h2, R.nb_ok]
    cases hp : P y with
    | true =>
      rw [if_pos rfl, h3 hp, R.nb_ok, ih, List.filter_cons_of_pos hp]
      rfl
    | false => rw [if_neg Bool.false_ne_true, ih, List.filter_cons_of_neg (by rw [hp]; exact Bool.false_ne_true)]
theorem cLoop_all {α : Type} {b : Bnd} {t : Rho → R Bool} {e : Rho → R D} {ρ : Rho} (F : α → D) (G : α → D) (ys : List α) (h : ∀ y ∈ ys, ∃ ρ1, b (F y) ρ = some ρ1 ∧ t ρ1 = .ok true ∧ e ρ1 = .ok (G y)) : cLoop b t e ρ (ys.map F) = .ok (ys.map G) := by
  have := cLoop_fil (b := b) (t := t) (e := e) (ρ := ρ) F (fun _ => true) G ys fun y hy => by
    obtain ⟨ρ1, h1, h2, h3⟩ := h y hy
    exact ⟨ρ1, h1, h2, fun _ => h3⟩
  rw [this, List.filter_eq_self.mpr fun _ _ => rfl]
theorem vComp {own : List Nat} {mi : Rho → R (List D)} {b : Bnd} {t : Rho → R Bool} {e : Rho → R D} {ρ : Rho} {xs ys : List D} (h : mi ρ = .ok xs) (hl : xs.length ≤ 16777216) (h2 : cLoop b t e (wipeR ρ own) xs = .ok ys) : mComp own mi b t e ρ = .ok ys := by
  unfold mComp
  rw [h, R.bind_ok, grd_ok hl, h2]
theorem rangeD_map (lo : Int) (n : Nat) : rangeD lo n 1 = (List.range n).map fun (i : Nat) => D.int (lo + i) := by
  unfold rangeD
  apply List.map_congr_left
  intro i _
  rw [Int.mul_one]
namespace K02
open Classical in
noncomputable def irrb (p : Int) (f : List Int) : Bool := decide (Irr p f)
def cands (p : Int) (d : Nat) : List (List Int) := (List.range (p ^ d).toNat).map fun (k : Nat) => num p d k
noncomputable def prims (p : Int) (d : Nat) : List (List Int) := (cands p d).filter (irrb p)
open Classical in
theorem isprime_b {p : Int} {f : List Int} (hp0 : 1 < p) (hp1 : p < 100) (mf : Mo p f) (hl : f.length < 900) (hpe : p ^ (f.length - 1) < 1000000) : f_l_is_prime [.int p, li f] = .ok (.bl (irrb p f)) := by
  obtain ⟨b, e, h⟩ := e_isprime hp0 hp1 mf hl hpe
  rw [e]
  congr 2
  unfold irrb
  cases b with
  | true => exact (decide_eq_true (h.mp rfl)).symm
  | false => exact (decide_eq_false fun z => Bool.false_ne_true (h.mpr z)).symm
theorem cand_mo {p : Int} (hp0 : 1 < p) {d : Nat} {f : List Int} (h : f ∈ cands p d) : Mo p f ∧ f.length = d + 1 := by
  obtain ⟨k, _, rfl⟩ := List.mem_map.mp h
  exact ⟨num_mo hp0 d k, num_len p d k⟩
theorem e_primes {p : Int} {d : Nat} (hp0 : 1 < p) (hp1 : p < 100) (hd : 1 ≤ d) (hd2 : d < 800) (hpe : p ^ d < 1000000) : f_prime_polynomials [.int p, .int d] = .ok (tis (prims p d)) := by
  have hpn := pow_nat hp0 d
  have lc : (cands p d).length = (p ^ d).toNat := by unfold cands; rw [List.length_map, List.length_range]
  refine fun_ok (.seq (.own (ds := (cands p d).map ti) ?_ ⟨_, rfl, .frz rfl (.ret (d := tis (prims p d)) (vTupL (vFrz ?_)) rfl)⟩))
  · refine vComp (r1 (p ^ d).toNat (v1 (vCall (v2 rfl rfl) rfl (by rw [hpn]; exact e_power hp0 hp1 (by omega)))) (by omega)) (by rw [rangeD_len]; omega) ?_
    rw [rangeD_map]
    unfold cands
    rw [List.map_map]
    exact cLoop_all _ _ _ fun k hk => ⟨_, rfl, rfl, vCall (vCons rfl (vCons rfl (v1 rfl))) rfl (by rw [show (0 : Int) + (k : Int) = k by omega]; exact e_num hp0 hp1 (by omega) k)⟩
  · refine vComp (xs := (cands p d).map ti) rfl (by rw [List.length_map, lc]; omega) ?_
    unfold prims
    refine cLoop_fil ti (irrb p) ti (cands p d) fun f hf => ?_
    obtain ⟨mf, lf⟩ := cand_mo hp0 hf
    obtain ⟨L, eL, fin⟩ := e_factors hp0 hp1 mf (by omega) (by rw [lf, Nat.add_sub_cancel]; exact hpe)
    refine ⟨_, rfl, vTb (vBin (vCall (v2 rfl rfl) rfl eL) (vTup (v1 rfl) (by show 1 ≤ 16777216; decide)) (z := .bl (irrb p f)) ?_), fun _ => rfl⟩
    have := eq_rr L [f]
    rw [show tis [f] = D.tup [ti f] from rfl] at this
    rw [this]
    congr 2
    unfold irrb
    exact decide_eq_decide.mpr (fin.alone hp0 mf (by omega))
theorem prims_len {p : Int} {d : Nat} (hp0 : 1 < p) (hp1 : p < 100) (hd2 : d < 800) (hpe : p ^ d < 1000000) : (prims p d).length = cnt p d := by
  unfold prims cands cnt
  rw [List.filter_map, List.length_map]
  congr 1
  apply List.filter_congr
  intro k _
  show irrb p (num p d k) = _
  rw [isprime_b hp0 hp1 (num_mo hp0 d k) (by rw [num_len]; omega) (by rw [num_len, Nat.add_sub_cancel]; exact hpe)]
  rfl
def isI (n : Int) : R D → Bool
  | .ok (.int i) => decide (i = n)
  | _ => false
theorem isI_eq {n : Int} {t : R D} (h : isI n t = true) : t = .ok (.int n) := by
  unfold isI at h
  split at h
  · rw [of_decide_eq_true h]
  · cases h
theorem e_moe {n : Nat} (h : 1 ≤ n) (h2 : n ≤ 5) : f_l_moebius [.int n] = .ok (.int (moe n)) := by
  have k : ∀ n ∈ List.range 6, 1 ≤ n → isI (moe n) (f_l_moebius [.int (n : Nat)]) = true := by decide +kernel
  exact isI_eq (k n (List.mem_range.mpr (by omega)) h)
theorem e_most {p c : Int} {ρ : Rho} (hp0 : 1 < p) (hp1 : p < 100) (e2 : ρ[2]? = some (.sh (.int p))) (hl : ρ.length = 18) :
    mBi dLen (mCons (mFrz (mComp [8] (mArgs dRange2 (mCons (mC (.int 1)) (mCons (mC (.int 12)) mNil))) (bName 8) (mTb (mBin dLe (mCall 2 f_l_power (mCons (mVar 2) (mCons (mVar 8) mNil))) (mC (.int c)))) (mVar 8))) mNil) ρ = .ok (.int (most c p)) := by
  refine vBi (v1 (vFrz (vComp (ys := ((List.range 11).filter fun (i : Nat) => decide (p ^ (1 + i) ≤ c)).map fun (i : Nat) => D.int (1 + (i : Int))) (r2 1 12 rfl (by omega) (by omega)) (by rw [rangeD_len]; decide) ?_))) ?_
  · rw [rangeD_map]
    refine cLoop_fil _ _ _ _ fun i hi => ?_
    have e2' : (((wipeR ρ [8]).set 8 (.sh (.int (1 + (i : Int))))))[2]? = some (.sh (.int p)) := by
      show ((ρ.set 8 .no).set 8 _)[2]? = _
      rw [List.getElem?_set_ne (by decide), List.getElem?_set_ne (by decide), e2]
    have e8' : (((wipeR ρ [8]).set 8 (.sh (.int (1 + (i : Int))))))[8]? = some (.sh (.int ((1 + i : Nat) : Int))) := by
      show ((ρ.set 8 .no).set 8 _)[8]? = _
      rw [List.getElem?_set_self (by rw [List.length_set]; omega), Int.natCast_add]
      rfl
    have g2 : mVar 2 (((wipeR ρ [8]).set 8 (.sh (.int (1 + (i : Int)))))) = .ok (.int p) := by unfold mVar; rw [e2']
    have g8 : mVar 8 (((wipeR ρ [8]).set 8 (.sh (.int (1 + (i : Int)))))) = .ok (.int ((1 + i : Nat) : Int)) := by unfold mVar; rw [e8']
    have hi2 := List.mem_range.mp hi
    exact ⟨_, rfl, vTb (vBin (vCall (v2 g2 g8) rfl (e_lpower hp0 hp1 (by omega))) rfl rfl), fun _ => g8.trans (by rw [Int.natCast_add]; rfl)⟩
  · show R.ok (D.int ((List.map _ _).length : Nat)) = _
    rw [List.length_map]
    rfl
end K02
end Y
/-! # P13 -/
set_option Elab.async false
set_option linter.all false
set_option maxRecDepth 100000
set_option maxHeartbeats 4000000
namespace Y
open Po PySem
/-! ### every way out -/
structure Av {α : Type} (t : R α) (P : α → Prop) : Prop where
  h : t.all P (fun _ => False)
theorem Av.imp {α : Type} {t : R α} {P Q : α → Prop} (hp : ∀ d, P d → Q d) (k : Av t P) : Av t Q := ⟨R.all_imp hp (fun _ z => z) k.h⟩
/-- a structure, so that Lean does not run the text when it looks at the goal -/
structure Al (m : Rho → R Out) (ρ : Rho) (P : Out → Prop) : Prop where
  h : (m ρ).all P (fun _ => False)
section
variable {a b body : Rho → R Out} {ρ : Rho} {P : Out → Prop} {i : Nat}
theorem Go.al (h : Go a ρ P) : Al a ρ P := ⟨by
  obtain ⟨o, e, k⟩ := h
  rw [e]
  exact k⟩
theorem Al.seq (h : Al a ρ fun o => ∃ ρ', o = .next ρ' ∧ Al b ρ' P) : Al (mSeq a b) ρ P := ⟨by
  unfold mSeq
  refine R.all_bind.mpr (R.all_imp (fun o z => ?_) (fun _ z => z) h.h)
  obtain ⟨ρ', rfl, z⟩ := z
  exact z.h⟩
theorem Al.gseq (h : Go a ρ fun o => ∃ ρ', o = .next ρ' ∧ Al b ρ' P) : Al (mSeq a b) ρ P := .seq h.al
theorem Al.set {m : Rho → R D} (h : Av (m ρ) fun d => P (.next (ρ.set i (.sh d)))) : Al (mSet i m) ρ P := ⟨R.all_bx.mpr (R.all_imp (fun _ z => z) (fun _ z => z.elim) h.h)⟩
theorem Al.ret {m : Rho → R D} (h : Av (m ρ) fun d => P (.ret d)) : Al (mRet m) ρ P := ⟨R.all_bx.mpr (R.all_imp (fun _ z => z) (fun _ z => z.elim) h.h)⟩
theorem Al.ifT {t : Rho → R Bool} (h : t ρ = .ok true) (k : Al a ρ P) : Al (mIf t a b) ρ P := ⟨by
  unfold mIf
  rw [h]
  exact k.h⟩
theorem Al.ifF {t : Rho → R Bool} (h : t ρ = .ok false) (k : Al b ρ P) : Al (mIf t a b) ρ P := ⟨by
  unfold mIf
  rw [h]
  exact k.h⟩
theorem Al.frz {ds : List D} (e : ρ[i]? = some (.ow ds)) (h : Al a (ρ.set i (.sh (.lst ds))) P) : Al (mFrzS i a) ρ P := ⟨by
  unfold mFrzS
  rw [e]
  exact h.h⟩
theorem Al.for {mi : Rho → R (List D)} {bd : Bnd} {xs : List D} (I : Nat → Rho → Prop) (h : mi ρ = .ok xs) (h0 : I 0 ρ)
    (hs : ∀ i x ρ, xs[i]? = some x → I i ρ → ∃ ρ1, bd x ρ = some ρ1 ∧ Al body ρ1 fun o => ∃ ρ', o = .next ρ' ∧ I (i + 1) ρ') (hd : ∀ ρ', I xs.length ρ' → P (.next ρ')) : Al (mFor mi bd body) ρ P := ⟨by
  unfold mFor
  rw [h]
  refine fLoop_all0 (P := P) I h0 (fun i x ρ hx h2 => ?_) hd
  obtain ⟨ρ1, e, k⟩ := hs i x ρ hx h2
  unfold turnM
  rw [e]
  refine R.all_imp (fun o z => ?_) (fun _ z => z) k.h
  obtain ⟨ρ', rfl, z⟩ := z
  exact z⟩
end
section
variable {ρ : Rho} {a m : Rho → R D} {ma : Rho → R (List D)} {n : Nat} {P : D → Prop}
theorem aOk {α : Type} {t : R α} {d : α} {P : α → Prop} (h : t = .ok d) (k : P d) : Av t P := ⟨by
  rw [h]
  exact k⟩
theorem aCons {Q : List D → Prop} (h : Av (a ρ) fun x => Av (ma ρ) fun xs => Q (x :: xs)) : Av (mCons a ma ρ) Q := ⟨R.all_bind.mpr (R.all_imp (fun x z => R.all_bind.mpr (R.all_imp (fun _ y => y) (fun _ y => y) z.h)) (fun _ z => z) h.h)⟩
theorem aCall {f : List D → R D} (h : Av (ma ρ) fun ds => ds.length = n ∧ Av (f ds) P) : Av (mCall n f ma ρ) P := ⟨R.all_bind.mpr (R.all_imp (fun ds z => R.all_grd.mpr ⟨z.1, z.2.h⟩) (fun _ z => z) h.h)⟩
theorem aBin {f : D → D → R D} {b : Rho → R D} (h : Av (a ρ) fun x => Av (b ρ) fun y => Av (f x y) P) : Av (mBin f a b ρ) P := ⟨R.all_bind.mpr (R.all_imp (fun x z => R.all_bind.mpr (R.all_imp (fun _ y => y.h) (fun _ y => y) z.h)) (fun _ z => z) h.h)⟩
theorem aAny {b : Int} (h0 : 0 < b) (h1 : b < 2 ^ 200) (h : ∀ r, 0 ≤ r → r < b → P (.int r)) : Av (f_any [.deal, .int b]) P := ⟨⟨⟨h0, h1⟩, h⟩⟩
theorem vCallK {π : List Nat} {x y z : Nat} {f : List D → R D} {mk : Rho → R (List D)} {ds es : List D} {d : D} (h : ma ρ = .ok ds) (h2 : mk ρ = .ok es) (hc : ds.length = y ∧ es.length = z ∧ (pick π (ds ++ es)).length = x) (hf : f (pick π (ds ++ es)) = .ok d) : mCallK π x y z f ma mk ρ = .ok d := by
  unfold mCallK
  rw [h, R.bind_ok, h2, R.bind_ok, grd_ok hc, hf]
end
theorem mapM_ints : ∀ ns : List Int, (ns.map D.int).mapM D.int? = some ns
  | [] => rfl
  | n :: ns => by
    rw [List.map_cons, List.mapM_cons, mapM_ints ns]
    rfl
theorem sum_li (ns : List Int) : dSum [li ns] = .ok (.int ns.sum) := by
  show (match (ns.map D.int).mapM D.int? with | some ns => R.ok (D.int ns.sum) | none => .stuck) = _
  rw [mapM_ints]
theorem isi_ti (l : List Int) : dIsi "tuple" (ti l) = .ok (.bl true) := by
  have h : L2.kitB "tuple" "tuple" = some true := by decide +kernel
  show (match L2.kitB "tuple" "tuple" with | some b => R.ok (D.bl b) | none => .stuck) = _
  rw [h]
theorem isi_tis (l : List D) : dIsi "tuple" (.tup l) = .ok (.bl true) := by
  have h : L2.kitB "tuple" "tuple" = some true := by decide +kernel
  show (match L2.kitB "tuple" "tuple" with | some b => R.ok (D.bl b) | none => .stuck) = _
  rw [h]
namespace K02
theorem al_of {l : List Int} (h0 : 0 < l.length) (h1 : l.length < 1000) : Av (f_l_of [.deal, li l]) fun d => ∃ v ∈ l, d = .int v := by
  have e : f_l_of [.deal, li l] = R.draw ((l.map D.int).length : Nat) fun r => ((lift [.sh .deal, .sh (li l)] (dIx (li l) (.int r)) fun d => .ok (.ret d)).nb endM) := rfl
  constructor
  rw [e, li_len]
  refine ⟨⟨by omega, by omega⟩, fun r r0 r1 => ?_⟩
  obtain ⟨k, rfl⟩ : ∃ k : Nat, r = k := ⟨r.toNat, by omega⟩
  show R.all _ _ ((lift [.sh .deal, .sh (li l)] (dIx (li l) (.int (k : Int))) fun d => .ok (.ret d)).nb endM)
  rw [ix_li (by omega : k < l.length)]
  exact ⟨co l k, by rw [co_get (by omega)]; exact List.getElem_mem _, rfl⟩
theorem keys_ordered {p : Int} {L : List (List Int)} (h : L.Pairwise (Le p)) : InOrder (L.map fun f => pairD ((f.length : Int), ev f p)) := by
  refine ⟨L.map fun f => ((f.length : Int), ev f p), by rw [List.map_map]; rfl, ?_⟩
  rw [List.pairwise_map]
  refine List.Pairwise.imp (fun {a b} hab => ?_) h
  cases hb : SrtO.lexB ((b.length : Int), ev b p) ((a.length : Int), ev a p) with
  | false => rfl
  | true =>
    exfalso
    have := SrtO.lexB_iff.mp hb
    unfold Le at hab
    simp only at this
    omega
end K02
end Y
/-! # P14 -/
set_option Elab.async false
set_option linter.all false
set_option maxRecDepth 100000
set_option maxHeartbeats 8000000
namespace Y
open Po PySem
namespace K02
theorem pow_lt {p c : Int} (hp : 1 < p) {m n : Nat} (h : p ^ m ≤ c) (hn : n ≤ m) : p ^ n ≤ c := Int.le_trans (pow_mono hp hn) h
theorem key_lrows {p : Int} (L : List (List Int)) : L.map (fun f => pairD ((f.length : Int), ev f p)) = (L.map fun f => [(f.length : Int), ev f p]).map ti := by
  rw [List.map_map]
  rfl
theorem degs_take {L : List (List Int)} {i : Nat} {f : List Int} (h : L[i]? = some f) : L.take (i + 1) = L.take i ++ [f] := by
  rw [List.take_add_one, h]
  rfl
theorem degs_le : ∀ (L : List (List Int)) (i : Nat), degs (L.take i) ≤ degs L
  | [], i => by simp [degs]
  | f :: L, 0 => by simp [degs]
  | f :: L, i + 1 => by
    have := degs_le L i
    unfold degs at *
    rw [List.take_succ_cons, List.map_cons, List.map_cons, List.sum_cons, List.sum_cons]
    omega
def plist : List Int := [2, 2, 2, 3, 3, 5, 7, 11, 13, 17, 19, 23, 29, 31, 37, 41, 43, 47]
theorem plist_ps : ∀ p ∈ plist, p ∈ ps := by decide
theorem Fin.len_le {p : Int} {w : List Int} {L : List (List Int)} (f : Fin p w L) : L.length ≤ w.length - 1 := by
  rw [← f.deg]
  exact len_degs f.irr
theorem Fin.each {p : Int} {w : List Int} {L : List (List Int)} (f : Fin p w L) {g : List Int} (h : g ∈ L) : g.length - 1 ≤ w.length - 1 := by
  rw [← f.deg]
  obtain ⟨i, hi⟩ := List.mem_iff_getElem?.mp h
  have h1 := degs_le L (i + 1)
  rw [degs_take hi, degs_app] at h1
  omega
theorem divs_mem {d e : Nat} (h : e ∈ divs d) : 1 ≤ e ∧ e ≤ d ∧ d % e = 0 := by
  unfold divs at h
  obtain ⟨h1, h2⟩ := List.mem_filter.mp h
  obtain ⟨k, hk, rfl⟩ := List.mem_map.mp h1
  have := List.mem_range.mp hk
  exact ⟨by omega, by omega, of_decide_eq_true h2⟩
theorem moe_small (n : Nat) : small64 (moe n) := by
  unfold moe
  split <;> exact ⟨by decide, by decide⟩
theorem vAndV {ρ : Rho} {a b : Rho → R D} {z : D} (h : a ρ = .ok (.bl true)) (h2 : b ρ = .ok z) : mAndV a b ρ = .ok z := by
  unfold mAndV
  rw [h]
  exact h2
theorem len_tis (L : List (List Int)) : dLen [tis L] = .ok (.int (L.length : Nat)) := by
  show R.ok (D.int ((L.map ti).length : Nat)) = _
  rw [List.length_map]
/-- what the law asks of prime_polynomials -/
theorem last_part {p : Int} {d : Nat} {s0 s1 s3 s4 s5 s6 s7 s9 s10 s11 s12 s13 s14 s15 s16 s17 : Sl} (hp : p ∈ ps) (hd : 1 ≤ d) (hpd : p ^ d ≤ 49) (hd6 : d < 6) :
    Go (mSeq (mOwn 9 (mComp [15] (mArgs dRange1 (mCons (mCall 2 f_l_power (mCons (mVar 2) (mCons (mVar 8) mNil))) mNil)) (bName 15) mYes (mCall 3 f_l_monic (mCons (mVar 2) (mCons (mVar 8) (mCons (mVar 15) mNil)))))) (mFrzS 9 (mSeq (mSet 10 (mTupC (mFrz (mComp [17] (mIter (mVar 9)) (bName 17) (mTt (mCall 2 f_l_is_prime (mCons (mVar 2) (mCons (mVar 17) mNil)))) (mTupC (mVarB 17)))))) (mSeq (mOwn 11 (mComp [16] (mArgs dRange2 (mCons (mC (.int 1)) (mCons (mBin dAdd (mVarB 8) (mC (.int 1))) mNil))) (bName 16) (mTb (mBin dEq (mBin dMod (mVarB 8) (mVarB 16)) (mC (.int 0)))) (mVar 16))) (mFrzS 11 (mSeq (mSet 12 (mBi dSum (mCons (mFrz (mComp [16] (mIter (mVar 11)) (bName 16) mYes (mBin dMul (mCall 1 f_l_moebius (mCons (mBin dDiv (mVarB 8) (mVarB 16)) mNil)) (mCall 2 f_l_power (mCons (mVar 2) (mCons (mVar 16) mNil)))))) mNil))) (mRet (mAndV (mBin dEq (mBi dRepr (mCons (mCallK [1, 0] 2 0 2 f_prime_polynomials mNil (mCons (mVar 8) (mCons (mVar 2) mNil))) mNil)) (mBi dRepr (mCons (mVarB 10) mNil))) (mBin dEq (mBin dMul (mVarB 8) (mBi dLen (mCons (mVarB 10) mNil))) (mVarB 12))))))))))
      [s0, s1, .sh (.int p), s3, s4, s5, s6, s7, .sh (.int d), s9, s10, s11, s12, s13, s14, s15, s16, s17] (fun o => o = .ret (.bl true)) := by
  obtain ⟨hp0, hp1, _, _, _, _, _⟩ := most_a p hp
  have hpn := pow_nat hp0 d
  have lc : (cands p d).length = (p ^ d).toNat := by unfold cands; rw [List.length_map, List.length_range]
  have lp : (prims p d).length ≤ 49 := by
    have := List.length_filter_le (irrb p) (cands p d)
    unfold prims
    omega
  have ct := count_ok p hp d (List.mem_range.mpr hd6) hd hpd
  rw [← prims_len hp0 hp1 (by omega) (by omega)] at ct
  refine .seq (.own (ds := (cands p d).map li) ?_ ⟨_, rfl, .frz rfl ?_⟩)
  · refine vComp (r1 (p ^ d).toNat (v1 (vCall (v2 rfl rfl) rfl (by rw [hpn]; exact e_lpower hp0 hp1 (by omega)))) (by omega)) (by rw [rangeD_len]; omega) ?_
    rw [rangeD_map]
    unfold cands
    rw [List.map_map]
    exact cLoop_all _ _ _ fun k hk => ⟨_, rfl, rfl, vCall (vCons rfl (vCons rfl (v1 rfl))) rfl (by rw [show (0 : Int) + (k : Int) = k by omega]; exact e_monic hp0 hp1 (by omega) k)⟩
  refine .seq (.set (d := tis (prims p d)) (vTupL (vFrz (vComp (xs := (cands p d).map li) rfl (by rw [List.length_map, lc]; omega) ?_))) ⟨_, rfl, ?_⟩)
  · unfold prims
    refine cLoop_fil li (irrb p) ti (cands p d) fun f hf => ?_
    obtain ⟨mf, lf⟩ := cand_mo hp0 hf
    exact ⟨_, rfl, vTt (vCall (v2 rfl rfl) rfl (isprime_b hp0 hp1 mf (by omega) (by rw [lf, Nat.add_sub_cancel]; omega))), fun _ => vTupL rfl⟩
  refine .seq (.own (ds := (divs d).map fun (e : Nat) => D.int (e : Int)) ?_ ⟨_, rfl, .frz rfl ?_⟩)
  · refine vComp (r2 1 (d + 1) (v2 rfl (vBin rfl rfl (add_nn d 1))) (by omega) (by omega)) (by rw [rangeD_len]; omega) ?_
    rw [rangeD_map, Nat.add_sub_cancel]
    have e0 : (List.range d).map (fun (i : Nat) => D.int (((1 : Nat) : Int) + (i : Int))) = ((List.range d).map (1 + ·)).map fun (e : Nat) => D.int (e : Int) := by
      rw [List.map_map]
      apply List.map_congr_left
      intro i _
      show D.int _ = D.int (((1 + i : Nat)) : Int)
      rw [Int.natCast_add]
    rw [e0]
    refine cLoop_fil _ (fun (e : Nat) => decide (d % e = 0)) _ _ fun e he => ⟨_, rfl, vTb (vBin (vBin rfl rfl (z := .int ((d % e : Nat) : Int)) ?_) rfl ?_), fun _ => rfl⟩
    · obtain ⟨k, hk, rfl⟩ := List.mem_map.mp he
      rw [mod_ii (by omega), Int.natCast_emod]
    · rw [eq_ii]
      congr 2
      exact decide_eq_decide.mpr (by omega)
  refine .seq (.set (d := .int ((divs d).map fun e => moe (d / e) * p ^ e).sum) (vBi (v1 (x := li ((divs d).map fun e => moe (d / e) * p ^ e)) (vFrz (vComp (xs := (divs d).map fun (e : Nat) => D.int (e : Int)) rfl ?_ ?_))) (sum_li _)) ⟨_, rfl, ?_⟩)
  · rw [List.length_map]
    have := List.length_filter_le (fun e => decide (d % e = 0)) ((List.range d).map (1 + ·))
    unfold divs
    rw [List.length_map, List.length_range] at this
    omega
  · rw [List.map_map]
    refine cLoop_all _ _ _ fun e he => ?_
    obtain ⟨h1, h2, h3⟩ := divs_mem he
    have hq1 : 1 ≤ d / e := Nat.div_pos h2 (by omega)
    have hq2 : d / e ≤ 5 := Nat.le_trans (Nat.div_le_self d e) (by omega)
    refine ⟨_, rfl, rfl, vBin (vCall (v1 (vBin rfl rfl (z := .int ((d / e : Nat) : Int)) ?_)) rfl (e_moe hq1 hq2)) (vCall (v2 rfl rfl) rfl (e_lpower hp0 hp1 (by omega))) (mul_ii (.inl (moe_small _)))⟩
    rw [Int.natCast_ediv]
    exact grd_ok (p := (0 : Int) < (e : Int) ∧ (e : Int) < 2 ^ 200) ⟨by omega, by omega⟩
  have rd : ∀ l ∈ prims p d, Rd 100 l ∧ l.length ≤ 6 := fun l hl => by
    obtain ⟨h1, h2⟩ := cand_mo (p := p) (d := d) hp0 (List.mem_filter.mp hl).1
    exact ⟨fun c hc => by have := h1.rd c hc; omega, by omega⟩
  have rp := repr_tis rd (by omega) (by omega)
  have sk := (tis_show rd).2.2.1
  have rdd : Rd 100 [] := fun c hc => absurd hc List.not_mem_nil
  refine .ret (d := .bl true) ?_ rfl
  have g1 : mBin dEq (mBi dRepr (mCons (mCallK [1, 0] 2 0 2 f_prime_polynomials mNil (mCons (mVar 8) (mCons (mVar 2) mNil))) mNil)) (mBi dRepr (mCons (mVarB 10) mNil))
      [s0, s1, .sh (.int p), s3, s4, s5, s6, s7, .sh (.int d), .sh (.lst ((cands p d).map li)), .sh (tis (prims p d)), .sh (.lst ((divs d).map fun (e : Nat) => D.int (e : Int))), .sh (.int ((divs d).map fun e => moe (d / e) * p ^ e).sum), s13, s14, s15, s16, s17] = .ok (.bl true) :=
    vBin (vBi (v1 (vCallK rfl (v2 rfl rfl) ⟨rfl, rfl, rfl⟩ (e_primes hp0 hp1 hd (by omega) (by omega)))) rp) (vBi (v1 rfl) rp) (str_self sk).1
  have g2 : mBin dEq (mBin dMul (mVarB 8) (mBi dLen (mCons (mVarB 10) mNil))) (mVarB 12)
      [s0, s1, .sh (.int p), s3, s4, s5, s6, s7, .sh (.int d), .sh (.lst ((cands p d).map li)), .sh (tis (prims p d)), .sh (.lst ((divs d).map fun (e : Nat) => D.int (e : Int))), .sh (.int ((divs d).map fun e => moe (d / e) * p ^ e).sum), s13, s14, s15, s16, s17] = .ok (.bl true) := by
    have hs : small64 (d : Int) := ⟨by omega, by omega⟩
    have hm : dMul (.int (d : Int)) (.int ((prims p d).length : Nat)) = .ok (.int ((d : Int) * ((prims p d).length : Nat))) := mul_ii (.inl hs)
    have he : dEq (.int ((d : Int) * ((prims p d).length : Nat))) (.int ((divs d).map fun e => moe (d / e) * p ^ e).sum) = .ok (.bl true) := by rw [eq_ii, decide_eq_true ct]
    exact vBin (vBin rfl (vBi (v1 rfl) (len_tis (prims p d))) hm) rfl he
  exact vAndV g1 g2
end K02
end Y
/-! # P15a -/
set_option Elab.async false
set_option linter.all false
set_option maxRecDepth 100000
set_option maxHeartbeats 8000000
namespace Y
open Po PySem
theorem vSh {ρ : Rho} {m : Rho → R D} {d : D} (h : m ρ = .ok d) : mSh m ρ = .ok (.sh d) := by
  unfold mSh
  rw [h]
  rfl
open Classical in
theorem sortP_ok {ks : List D} (h : InOrder ks) : dSortP [.lst ks] = .ok (.lst ks) := by
  show R.grd (InOrder ks) _ = _
  exact grd_ok h
section
variable {ρ : Rho} {a b c : Rho → R D} {x y : D} {P : D → Prop}
theorem aC2 {f : List D → R D} (ha : a ρ = .ok x) (hb : b ρ = .ok y) (h : Av (f [x, y]) P) : Av (mCall 2 f (mCons a (mCons b mNil)) ρ) P := aCall (aOk (v2 ha hb) ⟨rfl, h⟩)
theorem aC3 {f : List D → R D} (ha : a ρ = .ok x) (hb : b ρ = .ok y) (hc : Av (c ρ) fun z => Av (f [x, y, z]) P) : Av (mCall 3 f (mCons a (mCons b (mCons c mNil))) ρ) P :=
  aCall (aCons (aOk ha (aCons (aOk hb (aCons (hc.imp fun z h => aOk (d := []) rfl ⟨rfl, h⟩))))))
end
namespace K02
theorem mo_one {p : Int} (hp : 1 < p) : Mo p [1] := ⟨fun c hc => by rw [List.mem_singleton.mp hc]; omega, by simp, rfl⟩
theorem math_end {p : Int} {w : List Int} {d8 : Sl} (hp : p ∈ ps) (mw : Mo p w) (lw : w.length - 1 ≤ most 2401 p) {P : Out → Prop} {rest : Rho → R Out}
    (k : ∀ d6 d7 d13 d14, Al rest [.no, .sh .deal, .sh (.int p), .sh (.int (most 2401 p : Nat)), .sh (ti w), .no, d6, d7, d8, .no, .no, .no, .no, d13, d14, .no, .no, .no] P) :
    Al (mSeq (mPar2 13 14 (mSh (mCallK [1, 0] 2 0 2 f_polynomial_factors mNil (mCons (mVar 4) (mCons (mVar 2) mNil)))) (mSh (mTup (mCons (mC (.int 1)) mNil)))) (mSeq (mFor (mIter (mVar 13)) (bName 6) (mSeq (mIf (mOrT (mNotT (mTt (mUn (dIsi "tuple") (mVarB 6)))) (mOrT (mTb (mBin dNe (mBin dIx (mVarB 6) (mUn dNeg (mC (.int 1)))) (mC (.int 1)))) (mNotT (mTt (mCall 2 f_l_is_prime (mCons (mVar 2) (mCons (mFrz (mSeqL (mCons (mVarB 6) mNil))) mNil))))))) (mRet (mC (.bl false))) mSkip) (mSet 14 (mCall 3 f_l_product (mCons (mVar 2) (mCons (mVar 14) (mCons (mVar 6) mNil))))))) (mSeq (mOwn 7 (mComp [6] (mIter (mVar 13)) (bName 6) mYes (mCall 2 f_l_key (mCons (mVar 2) (mCons (mVar 6) mNil))))) (mSeq (mIf (mOrT (mTb (mBin dNe (mBi dRepr (mCons (mVarB 14) mNil)) (mBi dRepr (mCons (mVarB 4) mNil)))) (mOrT (mNotT (mTt (mUn (dIsi "tuple") (mVarB 13)))) (mTb (mBin dNe (mVarB 7) (mBi dSortP (mCons (mVarB 7) mNil)))))) (mRet (mC (.bl false))) mSkip) rest))))
      [.no, .sh .deal, .sh (.int p), .sh (.int (most 2401 p : Nat)), .sh (ti w), .no, .no, .no, d8, .no, .no, .no, .no, .no, .no, .no, .no, .no] P := by
  obtain ⟨hp0, hp1, m1, m2, m3, m4, m5⟩ := most_a p hp
  have hpw : p ^ (w.length - 1) ≤ 2401 := pow_lt hp0 m1 lw
  have lw2 := mw.len
  obtain ⟨L, eL, fin⟩ := e_factors hp0 hp1 mw (by omega) (by omega)
  have lL := fin.len_le
  refine .gseq (.par2 (x := .sh (tis L)) (y := .sh (ti [1])) (vSh (vCallK rfl (v2 rfl rfl) ⟨rfl, rfl, rfl⟩ eL)) (vSh (vTup (v1 rfl) (by show 1 ≤ 16777216; decide))) ⟨_, rfl, ?_⟩)
  refine .gseq (.for (fun i ρ => ∃ bk d6, ρ = [.no, .sh .deal, .sh (.int p), .sh (.int (most 2401 p : Nat)), .sh (ti w), .no, d6, .no, d8, .no, .no, .no, .no, .sh (tis L), .sh (ti bk), .no, .no, .no] ∧ Mo p bk ∧ bk.length - 1 = degs (L.take i) ∧ ∃ h, ∀ x, ev bk x = ev (pm (L.take i)) x + p * ev h x) (xs := L.map ti) rfl ?_ ?_ ?_)
  · exact ⟨[1], .no, rfl, mo_one hp0, rfl, [], fun x => by simp [pm, ev]⟩
  · rintro i x ρ hx ⟨bk, d6, rfl, mb, lb, h, eb⟩
    rw [List.getElem?_map] at hx
    cases hf : L[i]? with
    | none => rw [hf] at hx; cases hx
    | some f =>
      rw [hf] at hx
      cases hx
      have hm : f ∈ L := List.mem_iff_getElem?.mpr ⟨i, hf⟩
      have mf := fin.mo f hm
      have lf := fin.each hm
      have lf2 := mf.len
      have lb2 := mb.len
      have ld := degs_le L i
      have ldd := fin.deg
      have e1 : dIx (ti f) (.int (-1)) = .ok (.int 1) := by rw [last_ti mf.ne, mf.top]
      have e2 : dNe (.int 1) (.int 1) = .ok (.bl false) := (ne_ii 1 1).trans rfl
      have e3 : f_l_is_prime [.int p, li f] = .ok (.bl true) := by
        rw [isprime_b hp0 hp1 mf (by omega) (by have := pow_mono hp0 lf; omega)]
        unfold irrb
        congr 2
        exact @decide_eq_true _ (_) (fin.irr f hm)
      obtain ⟨c, ec, mc, lc, h2, e4⟩ := e_product hp0 hp1 mb mf (.inl rfl) (.inl rfl) (by omega) (by omega)
      refine ⟨_, rfl, .seq (.ifF (vOr (vNot (vTt (vUn rfl (isi_ti f)))) (vOr (vTb (vBin (vBin rfl rfl e1) rfl e2)) (vNot (vTt (vCall (v2 rfl (vFrz rfl)) rfl e3))))) (.skip ⟨_, rfl, .set (vCall (vCons rfl (vCons rfl (v1 rfl))) rfl ec) ⟨_, rfl, c, _, rfl, mc, ?_, add (mul h f) h2, fun x => ?_⟩⟩))⟩
      · rw [degs_take hf, degs_app]
        omega
      · rw [degs_take hf, pm_app, ev_add, ev_mul, e4 x, eb x]
        grind
  · rintro ρ ⟨bk, d6, rfl, mb, lb, h, eb⟩
    rw [List.length_map, List.take_length] at eb
    have same : bk = w := by
      obtain ⟨h3, e3⟩ := fin.pr
      refine mb.same hp0 mw (h := add h (scl (-1) h3)) fun x => ?_
      rw [eb x, e3 x, ev_add, ev_scl]
      grind
    subst same
    refine ⟨_, rfl, .gseq (.own (ds := L.map fun f => pairD ((f.length : Int), ev f p)) (vComp (xs := L.map ti) rfl (by rw [List.length_map]; omega) ?_) ⟨_, rfl, ?_⟩)⟩
    · exact cLoop_all ti _ L fun f hf => by
        have lf := fin.each hf
        exact ⟨_, rfl, rfl, vCall (v2 rfl rfl) rfl (e_key hp0 hp1 (fin.mo f hf) (by omega))⟩
    · have rdw : Rd 100 bk := fun c hc => by have := mb.rd c hc; omega
      have rp := repr_ti rdw (by omega)
      have sk := (ti_show rdw).2.2.1
      have so := sortP_ok (keys_ordered fin.srt)
      have ne : dNe (.lst (L.map fun f => pairD ((f.length : Int), ev f p))) (.lst (L.map fun f => pairD ((f.length : Int), ev f p))) = .ok (.bl false) := by
        rw [key_lrows, ne_lrows, decide_eq_true rfl]
        rfl
      exact .gseq (.ifF (vOr (vTb (vBin (vBi (v1 rfl) rp) (vBi (v1 rfl) rp) (str_self sk).2)) (vOr (vNot (vTt (vUn rfl (isi_tis _)))) (vTb (vBin rfl (vBi (v1 rfl) so) ne)))) (.skip ⟨_, rfl, k _ _ _ _⟩))
end K02
end Y
/-! # P15 -/
set_option Elab.async false
set_option linter.all false
set_option maxRecDepth 100000
set_option maxHeartbeats 8000000
namespace Y
open Po PySem
namespace K02
theorem al_md {m : Rho → R Out} {ρ : Rho} (h : Al m ρ (fun o => o = .ret (.bl true))) : Md (m ρ) := ⟨h.h⟩
theorem al_md2 {m : Rho → R Out} {ρ ρ' : Rho} (e : ρ' = ρ) (h : Al m ρ (fun o => o = .ret (.bl true))) : Md (m ρ') := by
  rw [e]
  exact al_md h
theorem math0 : Al f_law_b [.no, .sh .deal, .no, .no, .no, .no, .no, .no, .no, .no, .no, .no, .no, .no, .no, .no, .no, .no] (fun o => o = .ret (.bl true)) := by
  unfold f_law_b
  refine .seq (.set (aCall (aOk (d := [.deal, li plist]) (v2 rfl (vFrz (vLst rfl (by show 18 ≤ 16777216; decide)))) ⟨rfl, (al_of (l := plist) (by decide) (by decide)).imp fun d hv => ?_⟩)))
  obtain ⟨p, hpl, rfl⟩ := hv
  have hp := plist_ps p hpl
  obtain ⟨hp0, hp1, m1, m2, m3, m4, m5⟩ := most_a p hp
  refine ⟨_, rfl, .gseq (.set (e_most hp0 hp1 rfl rfl) ⟨_, rfl, .gseq (.set (d := ti [1]) (vTup (v1 rfl) (by show 1 ≤ 16777216; decide)) ⟨_, rfl, .seq (.for (fun i ρ => ∃ w d8, ρ = [.no, .sh .deal, .sh (.int p), .sh (.int (most 2401 p : Nat)), .sh (ti w), .no, .no, .no, d8, .no, .no, .no, .no, .no, .no, .no, .no, .no] ∧ Mo p w ∧ w.length - 1 ≤ most 2401 p) (xs := rangeD 0 4 1) (r1 4 rfl (by omega)) ?_ ?_ ?_)⟩)⟩)⟩
  · exact ⟨[1], .no, rfl, mo_one hp0, Nat.zero_le _⟩
  · rintro i x ρ hx ⟨w, d8, rfl, mw, lw⟩
    have lw2 := mw.len
    obtain ⟨M, eM⟩ : ∃ M : Int, M = (if (4 : Int) < ((most 2401 p : Nat) : Int) then (4 : Int) else ((most 2401 p : Nat) : Int)) := ⟨_, rfl⟩
    have hM : 1 ≤ M ∧ M ≤ 4 := by rw [eM]; split <;> omega
    have hmin : dMin2 [.int (most 2401 p : Nat), .int 4] = .ok (.int M) := by rw [eM]; rfl
    refine ⟨_, rfl, .seq (.set (aCall (aOk (d := [.deal, .int (M + 1)]) (v2 rfl (vBin (vBi (v2 rfl rfl) hmin) rfl rfl)) ⟨rfl, aAny (by omega) (by omega) fun r r0 r1 => ?_⟩)))⟩
    obtain ⟨k, rfl⟩ : ∃ k : Nat, r = k := ⟨r.toNat, by omega⟩
    refine ⟨_, rfl, .seq ?_⟩
    have ht : mTb (mBin dLe (mBin dAdd (mBin dSub (mBi dLen (mCons (mVarB 4) mNil)) (mC (.int 1))) (mVarB 8)) (mVarB 3)) [.no, .sh .deal, .sh (.int p), .sh (.int (most 2401 p : Nat)), .sh (ti w), .sh x, .no, .no, .sh (.int (k : Nat)), .no, .no, .no, .no, .no, .no, .no, .no, .no] = .ok (decide (w.length - 1 + k ≤ most 2401 p)) := by
      refine vTb (vBin (vBin (vBin (vBi (v1 rfl) (len_ti w)) rfl (sub1 lw2)) rfl (add_nn _ k)) rfl ?_)
      show R.ok (D.bl (decide (((w.length - 1 + k : Nat) : Int) ≤ (most 2401 p : Nat)))) = _
      congr 2
      exact decide_eq_decide.mpr (by omega)
    by_cases hle : w.length - 1 + k ≤ most 2401 p
    · rw [decide_eq_true hle] at ht
      refine .ifT ht (.set (aC3 rfl rfl (aC3 rfl rfl (aC2 rfl rfl (aAny (by decide) (by decide) fun n n0 n1 => aOk (e_monic hp0 hp1 (by omega : k < 1000) n) ?_)))))
      obtain ⟨c, ec, mc, lc, h2, e4⟩ := e_product hp0 hp1 mw (num_mo hp0 k n) (.inl rfl) (.inr rfl) (by omega) (by rw [num_len]; omega)
      rw [num_len] at lc
      exact aOk ec ⟨_, rfl, Go.al (.no (.skip ⟨_, rfl, c, _, rfl, mc, by omega⟩))⟩
    · rw [decide_eq_false hle] at ht
      exact .ifF ht (Go.al (.skip ⟨_, rfl, Go.al (.no (.skip ⟨_, rfl, w, _, rfl, mw, lw⟩))⟩))
  · rintro ρ ⟨w, d8, rfl, mw, lw⟩
    refine ⟨_, rfl, math_end hp mw lw fun d6 d7 d13 d14 => ?_⟩
    refine .seq (.set (aBin (aOk rfl (aCall (aOk (v2 rfl (e_most hp0 hp1 rfl rfl)) ⟨rfl, aAny (by omega) (by omega) fun r r0 r1 => aOk rfl ?_⟩)))))
    obtain ⟨k, rfl⟩ : ∃ k : Nat, r = k := ⟨r.toNat, by omega⟩
    have hpd := most_b p hp k (List.mem_range.mpr (by omega))
    refine ⟨_, rfl, ?_⟩
    rw [show (1 : Int) + (k : Int) = ((1 + k : Nat) : Int) by omega]
    exact (last_part hp (by omega) hpd (by omega)).al
theorem math : Md (f_law_b (.no :: .sh .deal :: List.replicate (n_law.length - 2) .no)) := al_md2 (m := f_law_b) rfl math0
end K02
end Y
/-! # E_K02 -/
set_option Elab.async false
set_option linter.all false
open PySem PySem.W PyProof.Rows
set_option maxRecDepth 100000 in
set_option maxHeartbeats 0 in
theorem PySem.Challenge.cw_eitheronce_k02_prime_polynomials_holds : PySem.Challenge.rw_eitheronce_k02_prime_polynomials.Holds := by
  w_on; o_law; k_head; (case hw => w_witness2)
  k_fill
  refine Y.walkG (l := PySem.Challenge.rw_eitheronce_k02_prime_polynomials) (n := 63) (k := 5) (x := "_law_script") (sp := fun w => Y.spLaw _) rfl (by decide) rfl ⟨⟨rfl, by decide, by decide⟩, rfl⟩ (fun w h Y => PySem.W.kIn_of Y) ?F (fun _ _ a ns hl hS => ⟨a, ns, rfl, hS, fun _ => rfl⟩)
  case F =>
    intro w mg fa h KX G hmg
    refine' Y.K02.all_mk KX G hmg ?H_law ?H_l_any ?H_l_deal ?H_small_power ?H_trimmed_off ?H_polynomial_rest ?H_numbered_polynomial ?H_polynomial_factors ?H_prime_polynomials ?H_l_of ?H_l_power ?H_l_monic ?H_l_rest ?H_l_is_prime ?H_l_trimmed ?H_l_product ?H_l_key ?H_l_moebius ?z_abs ?z_enumerate ?z_int ?z_isinstance ?z_len ?z_list ?z_max ?z_min ?z_range ?z_repr ?z_sorted ?z_sum ?z_tuple Y.K02.math
    (case H_law => refine' Y.has_mk ?a ?l ?c ?k; (case a => k_is); (case l => k_is); (case c => k_is); (case k => k_is))
    (case H_l_any => refine' Y.has_mk ?a ?l ?c ?k; (case a => k_is); (case l => k_is); (case c => k_is); (case k => k_is))
    (case H_l_deal => refine' Y.has_mk ?a ?l ?c ?k; (case a => k_is); (case l => k_is); (case c => k_is); (case k => k_is))
    (case H_small_power => refine' Y.has_mk ?a ?l ?c ?k; (case a => k_is); (case l => k_is); (case c => k_is); (case k => k_is))
    (case H_trimmed_off => refine' Y.has_mk ?a ?l ?c ?k; (case a => k_is); (case l => k_is); (case c => k_is); (case k => k_is))
    (case H_polynomial_rest => refine' Y.has_mk ?a ?l ?c ?k; (case a => k_is); (case l => k_is); (case c => k_is); (case k => k_is))
    (case H_numbered_polynomial => refine' Y.has_mk ?a ?l ?c ?k; (case a => k_is); (case l => k_is); (case c => k_is); (case k => k_is))
    (case H_polynomial_factors => refine' Y.has_mk ?a ?l ?c ?k; (case a => k_is); (case l => k_is); (case c => k_is); (case k => k_is))
    (case H_prime_polynomials => refine' Y.has_mk ?a ?l ?c ?k; (case a => k_is); (case l => k_is); (case c => k_is); (case k => k_is))
    (case H_l_of => refine' Y.has_mk ?a ?l ?c ?k; (case a => k_is); (case l => k_is); (case c => k_is); (case k => k_is))
    (case H_l_power => refine' Y.has_mk ?a ?l ?c ?k; (case a => k_is); (case l => k_is); (case c => k_is); (case k => k_is))
    (case H_l_monic => refine' Y.has_mk ?a ?l ?c ?k; (case a => k_is); (case l => k_is); (case c => k_is); (case k => k_is))
    (case H_l_rest => refine' Y.has_mk ?a ?l ?c ?k; (case a => k_is); (case l => k_is); (case c => k_is); (case k => k_is))
    (case H_l_is_prime => refine' Y.has_mk ?a ?l ?c ?k; (case a => k_is); (case l => k_is); (case c => k_is); (case k => k_is))
    (case H_l_trimmed => refine' Y.has_mk ?a ?l ?c ?k; (case a => k_is); (case l => k_is); (case c => k_is); (case k => k_is))
    (case H_l_product => refine' Y.has_mk ?a ?l ?c ?k; (case a => k_is); (case l => k_is); (case c => k_is); (case k => k_is))
    (case H_l_key => refine' Y.has_mk ?a ?l ?c ?k; (case a => k_is); (case l => k_is); (case c => k_is); (case k => k_is))
    (case H_l_moebius => refine' Y.has_mk ?a ?l ?c ?k; (case a => k_is); (case l => k_is); (case c => k_is); (case k => k_is))
    (case z_abs => k_is)
    (case z_enumerate => k_is)
    (case z_int => k_is)
    (case z_isinstance => k_is)
    (case z_len => k_is)
    (case z_list => k_is)
    (case z_max => k_is)
    (case z_min => k_is)
    (case z_range => k_is)
    (case z_repr => k_is)
    (case z_sorted => k_is)
    (case z_sum => k_is)
    (case z_tuple => k_is)
