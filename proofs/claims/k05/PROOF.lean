import PyProof.Rows.All
import Wide.All
import OpenK.AllK
import Wide.FinOn
import HandS.ForMost
import HandS.ForExc
import HandS.Wide
import HandS.TupAny
import HandS.TupMul
import HandS.IsInst
import HandS.Conv
import HandS.Style
import HandS.Text
import KE.GoesMore
import KE.GoesEnum
import HandS.Iter
import HandS.Rev
import HandS.SortRule
import HandS.Zip
import HandS.ExcSuper
import KE.KSuper
import HandS.ExcIs
import KE.KExcIs
import HandS.Star
import HandS.SortInts
import PySem.Challenge.RW_eitheronce_k05_products_and_subfields
/-! # Y1 -/
set_option Elab.async false
set_option linter.all false
set_option maxRecDepth 100000
set_option maxHeartbeats 4000000
namespace Y
open PySem PySem.Spec L2

/-! ### data, outcomes -/
inductive D where
  | non | bl (b : Bool) | int (i : Int) | str (s : Str) | tup (xs : List D) | lst (xs : List D)
  | obj (c : Nat) (vs : List D) | deal

/-- the text's classes by numbers: the name, the attributes in their order -/
def clsTab : Nat → Str × List Str
  | 0 => ("Field", ["p", "modulus", "k", "q", "maker", "_powers", "_places"])
  | 1 => ("Told", ["names", "pairs", "awake"])
  | 2 => ("Machine", ["deeds", "names", "size"])
  | 3 => ("Language", ["machine", "start", "good"])
  | 4 => ("Wide", ["field", "rounds", "constants", "multipliers"])
  | 5 => ("Pile", ["field", "lines", "many", "bonds", "behind"])
  | 6 => ("Live", ["machine", "state", "kind", "story", "_ahead", "_undone"])
  | 7 => ("Book", ["machine", "sheets"])
  | 8 => ("Desk", ["live"])
  | 20 => ("InvalidField", ["at"])
  | 21 => ("InvalidLine", ["at"])
  | 22 => ("InvalidMachine", ["at"])
  | 23 => ("InvalidGrouping", ["at"])
  | 24 => ("InvalidText", ["at"])
  | 25 => ("InvalidNaming", ["at"])
  | 26 => ("InvalidList", ["at"])
  | 27 => ("InvalidSaying", ["at"])
  | 28 => ("InvalidTurns", ["at"])
  | 29 => ("InvalidLanguage", ["at"])
  | 30 => ("InvalidTold", ["at"])
  | 31 => ("InvalidStory", ["at"])
  | 32 => ("Refused", ["at"])
  | 33 => ("InvalidSize", ["word"])
  | 34 => ("InvalidCommand", [])
  | 35 => ("NoName", ["name"])
  | _ => ("", [])
/-- an outcome: a value, an exception, no answer, a draw below b -/
inductive R (α : Type) where
  | ok (a : α) | exn (x : D) | stuck | draw (b : Int) (k : Int → R α)
namespace R
def bind {α β : Type} : R α → (α → R β) → R β
  | .ok a, f => f a
  | .exn x, _ => .exn x
  | .stuck, _ => .stuck
  | .draw b k, f => .draw b fun r => (k r).bind f
/-- every way out -/
def all {α : Type} (P : α → Prop) (E : D → Prop) : R α → Prop
  | .ok a => P a
  | .exn x => E x
  | .stuck => False
  | .draw b k => (0 < b ∧ b < 2 ^ 200) ∧ ∀ r, 0 ≤ r → r < b → (k r).all P E
def map {α β : Type} (f : α → β) (t : R α) : R β := t.bind fun a => .ok (f a)
/-- a test that must hold -/
def grd {α : Type} (p : Prop) [Decidable p] (t : R α) : R α := if p then t else .stuck
theorem all_bind {α β : Type} {P : β → Prop} {E : D → Prop} {f : α → R β} : ∀ {t : R α}, (t.bind f).all P E ↔ t.all (fun a => (f a).all P E) E
  | .ok a => Iff.rfl
  | .exn x => Iff.rfl
  | .stuck => Iff.rfl
  | .draw b k => and_congr Iff.rfl (forall_congr' fun r => imp_congr Iff.rfl (imp_congr Iff.rfl (all_bind (t := k r))))
theorem all_imp {α : Type} {P P' : α → Prop} {E E' : D → Prop} (hp : ∀ a, P a → P' a) (he : ∀ x, E x → E' x) : ∀ {t : R α}, t.all P E → t.all P' E'
  | .ok a, h => hp a h
  | .exn x, h => he x h
  | .stuck, h => h
  | .draw b k, h => ⟨h.1, fun r h0 h1 => all_imp hp he (t := k r) (h.2 r h0 h1)⟩
theorem all_grd {α : Type} {P : α → Prop} {E : D → Prop} {p : Prop} [Decidable p] {t : R α} : (grd p t).all P E ↔ p ∧ t.all P E := by
  unfold grd
  by_cases h : p
  · rw [if_pos h]; exact ⟨fun q => ⟨h, q⟩, fun q => q.2⟩
  · rw [if_neg h]; exact ⟨fun q => q.elim, fun q => h q.1⟩
@[simp] theorem bind_ok {α β : Type} (a : α) (f : α → R β) : (R.ok a).bind f = f a := rfl
@[simp] theorem bind_exn {α β : Type} (x : D) (f : α → R β) : (R.exn x).bind f = .exn x := rfl
@[simp] theorem bind_stuck {α β : Type} (f : α → R β) : (R.stuck).bind f = .stuck := rfl
@[simp] theorem bind_draw {α β : Type} (b : Int) (k : Int → R α) (f : α → R β) : (R.draw b k).bind f = .draw b fun r => (k r).bind f := rfl
theorem bind_assoc {α β γ : Type} {f : α → R β} {g : β → R γ} : ∀ {t : R α}, (t.bind f).bind g = t.bind fun a => (f a).bind g
  | .ok a => rfl
  | .exn x => rfl
  | .stuck => rfl
  | .draw b k => congrArg (R.draw b) (funext fun r => bind_assoc (t := k r))
end R

/-! ### how data lies in the abstract heap -/
abbrev DL := Option (Addr × Addr)
def Dl (dl : DL) (b : Addr) : Prop := ∃ a c, dl = some (a, c) ∧ (b = a ∨ b = c)
/-- the deal stands -/
def DealOk (dl : DL) (H : Hp) : Prop := ∀ a c, dl = some (a, c) → a ≠ c ∧ ∃ (cs : List Int) (m : Int), H a = some (.lst [.ref c, .int m]) ∧ H c = some (.lst (cs.map V.int)) ∧ cs.length ≤ 63 ∧ (∀ x ∈ cs, 0 ≤ x) ∧ 0 ≤ m ∧ m < 2147483647
section
variable (K : PySem.W.Frag) (mg : Str → Option Value) (dl : DL) (F : Hp)
mutual
def Rp : D → V → Prop
  | .non, v => v = .non
  | .bl b, v => v = .bl b
  | .int i, v => v = .int i
  | .str s, v => v = .str s
  | .tup ds, v => ∃ a vs, v = .ref a ∧ F a = some (.tup vs) ∧ RpL ds vs
  | .lst ds, v => ∃ a vs, v = .ref a ∧ F a = some (.lst vs) ∧ RpL ds vs
  | .obj c ds, v => ∃ a C dx fs, v = .ref a ∧ mg (clsTab c).1 = some (.ref C) ∧ F a = some (.ins C dx fs) ∧ fs.map (·.1) = (clsTab c).2.take ds.length ∧ RpL ds (fs.map (·.2))
  | .deal, v => ∃ a c, dl = some (a, c) ∧ v = .ref a
def RpL : List D → List V → Prop
  | [], vs => vs = []
  | d :: ds, vs => ∃ v r, vs = v :: r ∧ Rp d v ∧ RpL ds r
end
end

theorem SqT_same {K : PySem.W.Frag} {F F' : Hp} {a : Addr} {vs : List V} (s : Same F F') (h : SqT K F a vs) : SqT K F' a vs := by
  rcases h with (h | ⟨o, h⟩) | h
  · exact .inl (.inl (s _ _ h))
  · exact .inl (.inr ⟨o, s _ _ h⟩)
  · exact .inr h
section
variable {K : PySem.W.Frag} {mg : Str → Option Value} {dl : DL} {F F' : Hp}
mutual
theorem Rp.mono (s : Same F F') : ∀ (d : D) (v : V), Rp mg dl F d v → Rp mg dl F' d v
  | .non, _, h => h
  | .bl _, _, h => h
  | .int _, _, h => h
  | .str _, _, h => h
  | .tup ds, v, h => by
    unfold Rp at h ⊢
    obtain ⟨a, vs, e, q, r⟩ := h
    exact ⟨a, vs, e, s _ _ q, RpL.mono s ds vs r⟩
  | .lst ds, v, h => by
    unfold Rp at h ⊢
    obtain ⟨a, vs, e, q, r⟩ := h
    exact ⟨a, vs, e, s _ _ q, RpL.mono s ds vs r⟩
  | .obj c ds, v, h => by
    unfold Rp at h ⊢
    obtain ⟨a, C, dx, fs, e, g, q, k, r⟩ := h
    exact ⟨a, C, dx, fs, e, g, s _ _ q, k, RpL.mono s ds _ r⟩
  | .deal, v, h => by
    unfold Rp at h ⊢
    exact h
theorem RpL.mono (s : Same F F') : ∀ (ds : List D) (vs : List V), RpL mg dl F ds vs → RpL mg dl F' ds vs
  | [], vs, h => by
    unfold RpL at h ⊢
    exact h
  | d :: ds, vs, h => by
    unfold RpL at h ⊢
    obtain ⟨v, r, e, q, t⟩ := h
    exact ⟨v, r, e, Rp.mono s d v q, RpL.mono s ds r t⟩
end
theorem RpL.length : ∀ {ds : List D} {vs : List V}, RpL mg dl F ds vs → vs.length = ds.length
  | [], vs, h => by
    unfold RpL at h
    rw [h]; rfl
  | d :: ds, vs, h => by
    unfold RpL at h
    obtain ⟨v, r, rfl, _, t⟩ := h
    rw [List.length_cons, List.length_cons, RpL.length t]
theorem RpL.nil : RpL mg dl F [] [] := by unfold RpL; rfl
theorem RpL.cons {d : D} {v : V} {ds : List D} {vs : List V} (h : Rp mg dl F d v) (t : RpL mg dl F ds vs) : RpL mg dl F (d :: ds) (v :: vs) := by
  unfold RpL
  exact ⟨v, vs, rfl, h, t⟩
theorem RpL.get : ∀ {ds : List D} {vs : List V} {i : Nat} {d : D}, RpL mg dl F ds vs → ds[i]? = some d → ∃ v, vs[i]? = some v ∧ Rp mg dl F d v
  | [], vs, i, d, h, e => by simp at e
  | d' :: ds, vs, 0, d, h, e => by
    unfold RpL at h
    obtain ⟨v, r, rfl, q, t⟩ := h
    simp at e
    subst e
    exact ⟨v, rfl, q⟩
  | d' :: ds, vs, i + 1, d, h, e => by
    unfold RpL at h
    obtain ⟨v, r, rfl, q, t⟩ := h
    obtain ⟨v', e', q'⟩ := RpL.get (i := i) t (by simpa using e)
    exact ⟨v', by simpa using e', q'⟩
theorem RpL.append : ∀ {ds es : List D} {vs ws : List V}, RpL mg dl F ds vs → RpL mg dl F es ws → RpL mg dl F (ds ++ es) (vs ++ ws)
  | [], es, vs, ws, h, g => by
    unfold RpL at h
    subst h
    exact g
  | d :: ds, es, vs, ws, h, g => by
    unfold RpL at h
    obtain ⟨v, r, rfl, q, t⟩ := h
    exact RpL.cons q (RpL.append t g)
theorem RpL.drop : ∀ {ds : List D} {vs : List V} (n : Nat), RpL mg dl F ds vs → RpL mg dl F (ds.drop n) (vs.drop n)
  | ds, vs, 0, h => h
  | [], vs, n + 1, h => by
    unfold RpL at h
    subst h
    exact RpL.nil
  | d :: ds, vs, n + 1, h => by
    unfold RpL at h
    obtain ⟨v, r, rfl, q, t⟩ := h
    exact RpL.drop n t
theorem RpL.take : ∀ {ds : List D} {vs : List V} (n : Nat), RpL mg dl F ds vs → RpL mg dl F (ds.take n) (vs.take n)
  | ds, vs, 0, h => RpL.nil
  | [], vs, n + 1, h => by
    unfold RpL at h
    subst h
    exact RpL.nil
  | d :: ds, vs, n + 1, h => by
    unfold RpL at h
    obtain ⟨v, r, rfl, q, t⟩ := h
    exact RpL.cons q (RpL.take n t)
theorem RpL.set {d : D} {v : V} (q : Rp mg dl F d v) : ∀ {ds : List D} {vs : List V} (n : Nat), RpL mg dl F ds vs → RpL mg dl F (ds.set n d) (vs.set n v)
  | [], vs, n, h => by
    unfold RpL at h
    subst h
    exact RpL.nil
  | d' :: ds, vs, 0, h => by
    unfold RpL at h
    obtain ⟨v', r, rfl, q', t⟩ := h
    exact RpL.cons q t
  | d' :: ds, vs, n + 1, h => by
    unfold RpL at h
    obtain ⟨v', r, rfl, q', t⟩ := h
    exact RpL.cons q' (RpL.set q n t)
theorem RpL.reverse : ∀ {ds : List D} {vs : List V}, RpL mg dl F ds vs → RpL mg dl F ds.reverse vs.reverse
  | [], vs, h => by
    unfold RpL at h
    subst h
    exact RpL.nil
  | d :: ds, vs, h => by
    unfold RpL at h
    obtain ⟨v, r, rfl, q, t⟩ := h
    rw [List.reverse_cons, List.reverse_cons]
    exact RpL.append (RpL.reverse t) (RpL.cons q RpL.nil)
theorem RpL.ints : ∀ (ns : List Int), RpL mg dl F (ns.map D.int) (ns.map V.int)
  | [] => RpL.nil
  | n :: ns => RpL.cons (by unfold Rp; rfl) (RpL.ints ns)
theorem Rp.tup {ds : List D} {a : Addr} {vs : List V} (h : F a = some (.tup vs)) (r : RpL mg dl F ds vs) : Rp mg dl F (.tup ds) (.ref a) := by
  unfold Rp
  exact ⟨a, vs, rfl, h, r⟩
theorem Rp.lst {ds : List D} {a : Addr} {vs : List V} (h : F a = some (.lst vs)) (r : RpL mg dl F ds vs) : Rp mg dl F (.lst ds) (.ref a) := by
  unfold Rp
  exact ⟨a, vs, rfl, h, r⟩
theorem Rp.int (i : Int) : Rp mg dl F (.int i) (.int i) := by unfold Rp; rfl
theorem Rp.bl (i : Bool) : Rp mg dl F (.bl i) (.bl i) := by unfold Rp; rfl
theorem Rp.str (i : Str) : Rp mg dl F (.str i) (.str i) := by unfold Rp; rfl
theorem Rp.non : Rp mg dl F .non .non := by unfold Rp; rfl
end

/-! ### what a step may do -/
/-- F, H: what is frozen, the heap; a step only lays new things (and turns the deal) -/
structure Ext (dl : DL) (F H F' H' : Hp) : Prop where
  ff : Same F F'
  fh : Same F' H'
  hh : ∀ b o, H b = some o → ¬ Dl dl b → H' b = some o
  fr : ∀ b o, F' b = some o → F b = some o ∨ H b = none
  dk : DealOk dl H'
theorem DealOk.there {dl : DL} {H : Hp} (k : DealOk dl H) {b : Addr} (h : Dl dl b) : H b ≠ none := by
  obtain ⟨a, c, e, q⟩ := h
  obtain ⟨ne, cs, m, h1, h2, _⟩ := k a c e
  rcases q with rfl | rfl
  · rw [h1]; exact fun z => nomatch z
  · rw [h2]; exact fun z => nomatch z
theorem Ext.refl {dl : DL} {F H : Hp} (s : Same F H) (k : DealOk dl H) : Ext dl F H F H := ⟨Same.refl F, s, fun _ _ h _ => h, fun _ _ h => .inl h, k⟩
theorem Ext.trans {dl : DL} {F H F1 H1 F2 H2 : Hp} (a : Ext dl F H F1 H1) (b : Ext dl F1 H1 F2 H2) : Ext dl F H F2 H2 where
  ff := a.ff.trans b.ff
  fh := b.fh
  hh := fun c o h n => b.hh c o (a.hh c o h n) n
  fr := fun c o h => by
    rcases b.fr c o h with q | q
    · exact a.fr c o q
    · right
      cases e : H c with
      | none => rfl
      | some u =>
        exfalso
        by_cases n : Dl dl c
        · exact a.dk.there n q
        · rw [a.hh c u e n] at q; cases q
  dk := b.dk
theorem Ext.dfree {dl : DL} {F H F' H' : Hp} (x : Ext dl F H F' H') (k : DealOk dl H) (df : ∀ b, Dl dl b → F b = none) : ∀ b, Dl dl b → F' b = none := fun b hb => by
  cases e : F' b with
  | none => rfl
  | some o =>
    exfalso
    rcases x.fr b o e with q | q
    · rw [df b hb] at q; cases q
    · exact k.there hb q
theorem DealOk.upd {dl : DL} {H : Hp} {p : Addr} {o : HO} (k : DealOk dl H) (h : ¬ Dl dl p) : DealOk dl (upd H p o) := fun a c e => by
  obtain ⟨ne, cs, m, h1, h2, r⟩ := k a c e
  refine ⟨ne, cs, m, ?_, ?_, r⟩
  · rw [upd_ne (fun z => h ⟨a, c, e, .inl z.symm⟩)]; exact h1
  · rw [upd_ne (fun z => h ⟨a, c, e, .inr z.symm⟩)]; exact h2
theorem DealOk.nof {dl : DL} {H : Hp} (k : DealOk dl H) {p : Addr} (h : H p = none) : ¬ Dl dl p := fun d => k.there d h
theorem same_upd {H : Hp} {p : Addr} {o : HO} (h : H p = none) : Same H (upd H p o) := fun b x e => by
  rw [upd_ne (ne_of_none e h)]
  exact e
theorem same_none {F H : Hp} (s : Same F H) {p : Addr} (h : H p = none) : F p = none := s.free h
/-- a new object that stands still from now on -/
theorem Ext.lay {dl : DL} {F H : Hp} (s : Same F H) (k : DealOk dl H) {p : Addr} (h : H p = none) (o : HO) : Ext dl F H (upd F p o) (upd H p o) where
  ff := same_upd (same_none s h)
  fh := fun b x e => by
    by_cases q : b = p
    · subst q; rw [upd_same] at e ⊢; exact e
    · rw [upd_ne q] at e ⊢; exact s b x e
  hh := fun b x e _ => same_upd h b x e
  fr := fun b x e => by
    by_cases q : b = p
    · subst q; exact .inr h
    · rw [upd_ne q] at e; exact .inl e
  dk := k.upd (k.nof h)
/-- a new object of one's own -/
theorem Ext.own {dl : DL} {F H : Hp} (s : Same F H) (k : DealOk dl H) {p : Addr} (h : H p = none) (o : HO) : Ext dl F H F (upd H p o) where
  ff := Same.refl F
  fh := s.trans (same_upd h)
  hh := fun b x e _ => same_upd h b x e
  fr := fun b x e => .inl e
  dk := k.upd (k.nof h)

/-- what is known of the text: its written part, its global names -/
structure Kx where
  K : PySem.W.Frag
  mg : Str → Option Value
abbrev _root_.L2.Cx.kx (X : Cx) : Kx := ⟨X.K, X.mg⟩
/-! ### the frame -/
/-- a slot: unknown, a datum that stands still, a list of one's own -/
inductive Sl where
  | no | sh (d : D) | ow (ds : List D) | me (c : Nat) (ds : List D) | ex (c : Nat) (ds : List D) | dc (kvs : List (Key × D))
abbrev Rho := List Sl
/-- a body's base: the deal, what is frozen and the heap at its start, what is wanted of an exception -/
structure Bx where
  dl : DL
  F : Hp
  H : Hp
  W : WX
  x : Addr
  hd : Option (Value × Addr)
/-- an address of one's own -/
def Own (B : Bx) (F : Hp) (a : Addr) : Prop := F a = none ∧ B.H a = none ∧ ¬ Dl B.dl a
section
variable (Z : Kx) (B : Bx) (F H : Hp)
abbrev RpX (d : D) (v : V) : Prop := Rp Z.mg B.dl F d v
abbrev RpLX (ds : List D) (vs : List V) : Prop := RpL Z.mg B.dl F ds vs
/-- data to be read now: it stands still, or it is a list of one's own -/
def RpB (d : D) (v : V) : Prop := RpX Z B F d v ∨ ∃ ds a vs, d = .lst ds ∧ v = .ref a ∧ ¬ Dl B.dl a ∧ H a = some (.lst vs) ∧ RpLX Z B F ds vs
def SlOk : Sl → Option (Option V) → Prop
  | .no, _ => True
  | .sh d, o => ∃ v, o = some (some v) ∧ RpX Z B F d v
  | .ow ds, o => ∃ a vs, o = some (some (.ref a)) ∧ Own B F a ∧ H a = some (.lst vs) ∧ RpLX Z B F ds vs
  | .me c ds, o => ∃ a C dx fs, o = some (some (.ref a)) ∧ (Own B F a ∧ a = B.x) ∧ Z.mg (clsTab c).1 = some (.ref C) ∧ H a = some (.ins C dx fs) ∧ fs.map (·.1) = (clsTab c).2.take ds.length ∧ RpLX Z B F ds (fs.map (·.2))
  | .dc kvs, o => ∃ a vs, o = some (some (.ref a)) ∧ Own B F a ∧ H a = some (.dK vs) ∧ vs.map (·.1) = kvs.map (·.1) ∧ RpLX Z B F (kvs.map (·.2)) (vs.map (·.2))
  | .ex n ds, o => ∃ C dd fs, o = some (some (.ref B.x)) ∧ B.hd = some (.ref C, dd) ∧ Z.mg (clsTab n).1 = some (.ref C) ∧ F dd = some (.xd fs) ∧ fs.map (·.1) = (clsTab n).2.take ds.length ∧ RpLX Z B F ds (fs.map (·.2))
structure Ok (σ : St) (ρ : Rho) : Prop where
  ext : Ext B.dl B.F B.H F H
  df : ∀ b, Dl B.dl b → F b = none
  dk0 : DealOk B.dl B.H
  len : σ.length = ρ.length
  sl : ∀ (i : Nat) (s : Sl), ρ[i]? = some s → SlOk Z B F H s σ[i]?
  inj : ∀ (i j : Nat) (ds es : List D) (a : Addr), i ≠ j → ρ[i]? = some (.ow ds) → ρ[j]? = some (.ow es) → σ[i]? = some (some (.ref a)) → σ[j]? ≠ some (some (.ref a))
end
section
variable {Z : Kx} {B : Bx} {F H F' H' : Hp} {σ : St} {ρ : Rho}
theorem SlOk.step {s : Sl} {o : Option (Option V)} (k : DealOk B.dl H) (x : Ext B.dl F H F' H') (h : SlOk Z B F H s o) : SlOk Z B F' H' s o := by
  cases s with
  | no => trivial
  | sh d =>
    obtain ⟨v, e, r⟩ := h
    exact ⟨v, e, Rp.mono x.ff _ _ r⟩
  | ow ds =>
    obtain ⟨a, vs, e, ⟨o1, o2, o3⟩, q, r⟩ := h
    refine ⟨a, vs, e, ⟨?_, o2, o3⟩, x.hh _ _ q o3, RpL.mono x.ff _ _ r⟩
    cases z : F' a with
    | none => rfl
    | some u =>
      exfalso
      rcases x.fr a u z with y | y
      · rw [o1] at y; cases y
      · rw [q] at y; cases y
  | me c ds =>
    obtain ⟨a, C, dx, fs, e, ⟨⟨o1, o2, o3⟩, ox⟩, g, q, ek, r⟩ := h
    refine ⟨a, C, dx, fs, e, ⟨⟨?_, o2, o3⟩, ox⟩, g, x.hh _ _ q o3, ek, RpL.mono x.ff _ _ r⟩
    cases z : F' a with
    | none => rfl
    | some u =>
      exfalso
      rcases x.fr a u z with y | y
      · rw [o1] at y; cases y
      · rw [q] at y; cases y
  | ex n ds =>
    obtain ⟨C, dd, fs, e, hd, g, q, ek, r⟩ := h
    exact ⟨C, dd, fs, e, hd, g, x.ff _ _ q, ek, RpL.mono x.ff _ _ r⟩
  | dc kvs =>
    obtain ⟨a, vs, e, ⟨o1, o2, o3⟩, q, ek, r⟩ := h
    refine ⟨a, vs, e, ⟨?_, o2, o3⟩, x.hh _ _ q o3, ek, RpL.mono x.ff _ _ r⟩
    cases z : F' a with
    | none => rfl
    | some u =>
      exfalso
      rcases x.fr a u z with y | y
      · rw [o1] at y; cases y
      · rw [q] at y; cases y
theorem Ok.step (k : Ok Z B F H σ ρ) (x : Ext B.dl F H F' H') : Ok Z B F' H' σ ρ :=
  ⟨k.ext.trans x, x.dfree k.ext.dk k.df, k.dk0, k.len, fun i s e => (k.sl i s e).step k.ext.dk x, k.inj⟩
theorem Ok.fh (k : Ok Z B F H σ ρ) : Same F H := k.ext.fh
theorem Ok.dk (k : Ok Z B F H σ ρ) : DealOk B.dl H := k.ext.dk
theorem RpB.of {d : D} {v : V} (h : RpX Z B F d v) : RpB Z B F H d v := .inl h
theorem RpB.step {d : D} {v : V} (x : Ext B.dl F H F' H') (h : RpB Z B F H d v) : RpB Z B F' H' d v := by
  rcases h with h | ⟨ds, a, vs, e1, e2, n, q, r⟩
  · exact .inl (Rp.mono x.ff _ _ h)
  · exact .inr ⟨ds, a, vs, e1, e2, n, x.hh _ _ q n, RpL.mono x.ff _ _ r⟩
/-- a list that may be read -/
theorem RpB.lst {ds : List D} {v : V} (s : Same F H) (h : RpB Z B F H (.lst ds) v) : ∃ a vs, v = .ref a ∧ H a = some (.lst vs) ∧ RpLX Z B F ds vs := by
  rcases h with h | ⟨ds', a, vs, e1, e2, n, q, r⟩
  · unfold RpX Rp at h
    obtain ⟨a, vs, e, q, r⟩ := h
    exact ⟨a, vs, e, s _ _ q, r⟩
  · cases e1
    exact ⟨a, vs, e2, q, r⟩
theorem RpB.tup {ds : List D} {v : V} (s : Same F H) (h : RpB Z B F H (.tup ds) v) : ∃ a vs, v = .ref a ∧ H a = some (.tup vs) ∧ RpLX Z B F ds vs := by
  rcases h with h | ⟨ds', a, vs, e1, e2, n, q, r⟩
  · unfold RpX Rp at h
    obtain ⟨a, vs, e, q, r⟩ := h
    exact ⟨a, vs, e, s _ _ q, r⟩
  · cases e1
theorem RpB.int {i : Int} {v : V} (h : RpB Z B F H (.int i) v) : v = .int i := by
  rcases h with h | ⟨ds', a, vs, e1, e2, n, q, r⟩
  · unfold RpX Rp at h
    exact h
  · cases e1
theorem RpB.bl {i : Bool} {v : V} (h : RpB Z B F H (.bl i) v) : v = .bl i := by
  rcases h with h | ⟨ds', a, vs, e1, e2, n, q, r⟩
  · unfold RpX Rp at h
    exact h
  · cases e1
theorem RpB.str {i : Str} {v : V} (h : RpB Z B F H (.str i) v) : v = .str i := by
  rcases h with h | ⟨ds', a, vs, e1, e2, n, q, r⟩
  · unfold RpX Rp at h
    exact h
  · cases e1
theorem RpB.non {v : V} (h : RpB Z B F H .non v) : v = .non := by
  rcases h with h | ⟨ds', a, vs, e1, e2, n, q, r⟩
  · unfold RpX Rp at h
    exact h
  · cases e1
end
end Y
/-! # Y2 -/
set_option Elab.async false
set_option linter.all false
set_option maxRecDepth 100000
set_option maxHeartbeats 4000000
namespace Y
open PySem PySem.Spec L2

/-! ### readings by data -/
section
variable (Z : Kx) (B : Bx)
/-- where an exception lies -/
def Ex (F : Hp) (x : D) (c : Value) (o : Option Addr) : Prop := match x with
  | .obj n ds => ∃ C, Z.mg (clsTab n).1 = some (.ref C) ∧ c = .ref C ∧ ∃ dd fs, o = some dd ∧ F dd = some (.xd fs) ∧ fs.map (·.1) = (clsTab n).2.take ds.length ∧ RpL Z.mg B.dl F ds (fs.map (·.2))
  | _ => False
def XpE (F H : Hp) (σ : L2.St) : D → Prop := fun x => ∀ F' H' c o, Ext B.dl F H F' H' → Ex Z B F' x c o → B.W c o σ H'
def PE1 (F H : Hp) (Q : VK) : D → Prop := fun d => ∀ F' H' v, Ext B.dl F H F' H' → RpX Z B F' d v → Q v H'
def PB1 (F H : Hp) (Q : VK) : D → Prop := fun d => ∀ F' H' v, Ext B.dl F H F' H' → RpB Z B F' H' d v → Q v H'
def PO1 (F H : Hp) (Q : VK) : List D → Prop := fun ds => ∀ F' H' a vs, Ext B.dl F H F' H' → F' a = none → H a = none → H' a = some (.lst vs) → RpLX Z B F' ds vs → Q (.ref a) H'
def PA1 (F H : Hp) (Q : List V → Hp → Prop) : List D → Prop := fun ds => ∀ F' H' vs, Ext B.dl F H F' H' → RpLX Z B F' ds vs → Q vs H'
def PT1 (F H : Hp) (Q : Bool → Hp → Prop) : Bool → Prop := fun b => ∀ F' H', Ext B.dl F H F' H' → Q b H'
/-- a value that stands still -/
def yE (m : Rho → R D) : TE := fun σ H Q => ∃ F ρ, Ok Z B F H σ ρ ∧ (m ρ).all (PE1 Z B F H Q) (XpE Z B F H σ)
/-- a value to be read now -/
def yB (m : Rho → R D) : TE := fun σ H Q => ∃ F ρ, Ok Z B F H σ ρ ∧ (m ρ).all (PB1 Z B F H Q) (XpE Z B F H σ)
/-- a new list of one's own -/
def yO (m : Rho → R (List D)) : TE := fun σ H Q => ∃ F ρ, Ok Z B F H σ ρ ∧ (m ρ).all (PO1 Z B F H Q) (XpE Z B F H σ)
def yA (m : Rho → R (List D)) : TA := fun σ H Q => ∃ F ρ, Ok Z B F H σ ρ ∧ (m ρ).all (PA1 Z B F H Q) (XpE Z B F H σ)
def yT (m : Rho → R Bool) : TT := fun σ H Q => ∃ F ρ, Ok Z B F H σ ρ ∧ (m ρ).all (PT1 B F H Q) (XpE Z B F H σ)
end
section
variable {X : Cx} {e : Expr}
theorem pe_imp {t t' : TE} (h : PE X e t) (i : ∀ σ H Q, t' σ H Q → t σ H Q) : PE X e t' := ⟨fun pins s σ H Q I q => h.run pins s σ H Q I (i σ H Q q)⟩
theorem pt_imp {t t' : TT} (h : PT X e t) (i : ∀ σ H Q, t' σ H Q → t σ H Q) : PT X e t' := ⟨fun pins s σ H Q I q => h.run pins s σ H Q I (i σ H Q q)⟩
theorem pw_imp {t t' : TT} (h : PW X e t) (i : ∀ σ H Q, t' σ H Q → t σ H Q) : PW X e t' := ⟨fun wh pins s σ H Q I q => h.run wh pins s σ H Q I (i σ H Q q)⟩
theorem pa_imp {es : List Expr} {t t' : TA} (h : PA X es t) (i : ∀ σ H Q, t' σ H Q → t σ H Q) : PA X es t' := ⟨fun pos pins s σ H Q I q => h.run pos pins s σ H Q I (i σ H Q q)⟩
theorem ps_imp {st : Stmt} {t t' : TS} (h : PS X st t) (i : ∀ D σ H, t' D σ H → t D σ H) : PS X st t' := ⟨fun pins s σ H D I q => h.run pins s σ H D I (i D σ H q)⟩
theorem pss_imp {st : List Stmt} {t t' : TS} (h : PSs X st t) (i : ∀ D σ H, t' D σ H → t D σ H) : PSs X st t' := ⟨fun pins s σ H D I q => h.run pins s σ H D I (i D σ H q)⟩
theorem pi_imp {tg : Expr} {t t' : TI} (h : PI X tg e t) (i : ∀ σ H Q, t' σ H Q → t σ H Q) : PI X tg e t' := ⟨fun pins s σ H Q I q => h.run pins s σ H Q I (i σ H Q q)⟩
theorem pe_alt {t t' : TE} (h : PE X e t) (h' : PE X e t') : PE X e (fun σ H Q => t σ H Q ∨ t' σ H Q) := ⟨fun pins s σ H Q I q => q.elim (h.run pins s σ H Q I) (h'.run pins s σ H Q I)⟩
theorem pi_alt {tg : Expr} {t t' : TI} (h : PI X tg e t) (h' : PI X tg e t') : PI X tg e (fun σ H Q => t σ H Q ∨ t' σ H Q) := ⟨fun pins s σ H Q I q => q.elim (h.run pins s σ H Q I) (h'.run pins s σ H Q I)⟩
theorem opR_or {f : Value → Value → Sem Value} {r r' : R2} (h : OpR X f r) (h' : OpR X f r') : OpR X f (fun x y H Q => r x y H Q ∨ r' x y H Q) := fun pins s σ H x y v u Q I rx ry q => q.elim (h pins s σ H x y v u Q I rx ry) (h' pins s σ H x y v u Q I rx ry)
theorem ixR_or {r r' : R2} (h : IxR X r) (h' : IxR X r') : IxR X (fun x y H Q => r x y H Q ∨ r' x y H Q) := h.or h'
theorem callR_or {f : Value} {r r' : List V → Hp → VK → Prop} (h : CallR X f r) (h' : CallR X f r') : CallR X f (fun xs H Q => r xs H Q ∨ r' xs H Q) := fun pins s σ H xs us Q I rx q => q.elim (h pins s σ H xs us Q I rx) (h' pins s σ H xs us Q I rx)
end
section
variable {Z : Kx} {B : Bx} {F H F' H' : Hp} {σ : L2.St} {Q : VK}
theorem XpE.step {x : D} (h : XpE Z B F H σ x) (e : Ext B.dl F H F' H') : XpE Z B F' H' σ x := fun F2 H2 c o e2 q => h F2 H2 c o (e.trans e2) q
theorem PE1.step {d : D} (h : PE1 Z B F H Q d) (e : Ext B.dl F H F' H') : PE1 Z B F' H' Q d := fun F2 H2 v e2 q => h F2 H2 v (e.trans e2) q
theorem PB1.step {d : D} (h : PB1 Z B F H Q d) (e : Ext B.dl F H F' H') : PB1 Z B F' H' Q d := fun F2 H2 v e2 q => h F2 H2 v (e.trans e2) q
theorem PO1.step {d : List D} (h : PO1 Z B F H Q d) (e : Ext B.dl F H F' H') : PO1 Z B F' H' Q d := fun F2 H2 a vs e2 n1 n2 q r => h F2 H2 a vs (e.trans e2) n1 (by
  cases z : H a with
  | none => rfl
  | some o =>
    exfalso
    by_cases n : Dl B.dl a
    · exact e.dk.there n n2
    · rw [e.hh a o z n] at n2; cases n2) q r
theorem PA1.step {Q : List V → Hp → Prop} {d : List D} (h : PA1 Z B F H Q d) (e : Ext B.dl F H F' H') : PA1 Z B F' H' Q d := fun F2 H2 v e2 q => h F2 H2 v (e.trans e2) q
theorem PT1.step {Q : Bool → Hp → Prop} {d : Bool} (h : PT1 B F H Q d) (e : Ext B.dl F H F' H') : PT1 B F' H' Q d := fun F2 H2 e2 => h F2 H2 (e.trans e2)
/-- one part, then the rest -/
theorem seqE {m : Rho → R D} {ρ : Rho} {α : Type} {g : D → R α} {P : α → Prop} (ok : Ok Z B F H σ ρ) (h : ((m ρ).bind g).all P (XpE Z B F H σ))
    (k : ∀ d F' H' v, Ext B.dl F H F' H' → RpX Z B F' d v → (g d).all P (XpE Z B F' H' σ) → Q v H') : yE Z B m σ H Q :=
  ⟨F, ρ, ok, R.all_imp (fun d q F' H' v e r => k d F' H' v e r (R.all_imp (fun _ z => z) (fun x z => z.step e) q)) (fun _ z => z) (R.all_bind.mp h)⟩
theorem seqB {m : Rho → R D} {ρ : Rho} {α : Type} {g : D → R α} {P : α → Prop} (ok : Ok Z B F H σ ρ) (h : ((m ρ).bind g).all P (XpE Z B F H σ))
    (k : ∀ d F' H' v, Ext B.dl F H F' H' → RpB Z B F' H' d v → (g d).all P (XpE Z B F' H' σ) → Q v H') : yB Z B m σ H Q :=
  ⟨F, ρ, ok, R.all_imp (fun d q F' H' v e r => k d F' H' v e r (R.all_imp (fun _ z => z) (fun x z => z.step e) q)) (fun _ z => z) (R.all_bind.mp h)⟩
theorem seqA {Q : List V → Hp → Prop} {m : Rho → R (List D)} {ρ : Rho} {α : Type} {g : List D → R α} {P : α → Prop} (ok : Ok Z B F H σ ρ) (h : ((m ρ).bind g).all P (XpE Z B F H σ))
    (k : ∀ d F' H' v, Ext B.dl F H F' H' → RpLX Z B F' d v → (g d).all P (XpE Z B F' H' σ) → Q v H') : yA Z B m σ H Q :=
  ⟨F, ρ, ok, R.all_imp (fun d q F' H' v e r => k d F' H' v e r (R.all_imp (fun _ z => z) (fun x z => z.step e) q)) (fun _ z => z) (R.all_bind.mp h)⟩
theorem seqT {Q : Bool → Hp → Prop} {m : Rho → R Bool} {ρ : Rho} {α : Type} {g : Bool → R α} {P : α → Prop} (ok : Ok Z B F H σ ρ) (h : ((m ρ).bind g).all P (XpE Z B F H σ))
    (k : ∀ d F' H', Ext B.dl F H F' H' → (g d).all P (XpE Z B F' H' σ) → Q d H') : yT Z B m σ H Q :=
  ⟨F, ρ, ok, R.all_imp (fun d q F' H' e => k d F' H' e (R.all_imp (fun _ z => z) (fun x z => z.step e) q)) (fun _ z => z) (R.all_bind.mp h)⟩
end

/-! ### expressions -/
def mC (d : D) : Rho → R D := fun _ => .ok d
def mVar (i : Nat) : Rho → R D := fun ρ => match ρ[i]? with
  | some (.sh d) => .ok d
  | _ => .stuck
def mVarB (i : Nat) : Rho → R D := fun ρ => match ρ[i]? with
  | some (.sh d) => .ok d
  | some (.ow ds) => .ok (.lst ds)
  | _ => .stuck
def mBin (f : D → D → R D) (a b : Rho → R D) : Rho → R D := fun ρ => (a ρ).bind fun x => (b ρ).bind fun y => f x y
def mUn (f : D → R D) (a : Rho → R D) : Rho → R D := fun ρ => (a ρ).bind f
def mNil : Rho → R (List D) := fun _ => .ok []
def mCons (a : Rho → R D) (r : Rho → R (List D)) : Rho → R (List D) := fun ρ => (a ρ).bind fun x => (r ρ).bind fun xs => .ok (x :: xs)
def mTup (r : Rho → R (List D)) : Rho → R D := fun ρ => (r ρ).bind fun xs => R.grd (xs.length ≤ 16777216) (.ok (.tup xs))
def mLst (r : Rho → R (List D)) : Rho → R (List D) := fun ρ => (r ρ).bind fun xs => R.grd (xs.length ≤ 16777216) (.ok xs)
def mFrz (r : Rho → R (List D)) : Rho → R D := fun ρ => (r ρ).bind fun xs => .ok (.lst xs)
theorem szl : sizeLine = 16777216 := by rw [sizeLine_eq]
section
variable {X : Cx} {B : Bx} {e a b : Expr} {pos : Pos} {m ma mb : Rho → R D}
theorem ce_const {t : TE} {d : D} (v : V) (h : PE X e t) (ht : ∀ σ H Q, Q v H → t σ H Q) (hr : ∀ F, RpX X.kx B F d v) : PE X e (yE X.kx B (mC d)) := pe_imp h fun σ H Q q => by
  obtain ⟨F, ρ, ok, q⟩ := q
  exact ht σ H Q (q F H v (.refl ok.fh ok.dk) (hr F))
theorem ce_int {i : Int} {j p} : PE X (.Constant (.int i) j p) (yE X.kx B (mC (.int i))) := ce_const (.int i) pe_int (fun _ _ _ q => q) fun _ => Rp.int i
theorem ce_bl {i : Bool} {j p} : PE X (.Constant (.bool i) j p) (yE X.kx B (mC (.bl i))) := ce_const (.bl i) pe_bl (fun _ _ _ q => q) fun _ => Rp.bl i
theorem ce_str {i : Str} {j p} : PE X (.Constant (.str i) j p) (yE X.kx B (mC (.str i))) := ce_const (.str i) pe_str (fun _ _ _ q => q) fun _ => Rp.str i
theorem ce_non {j p} : PE X (.Constant .none j p) (yE X.kx B (mC .non)) := ce_const .non pe_non (fun _ _ _ q => q) fun _ => Rp.non
theorem ce_v (i : Nat) {x : Str} {p : Pos} (hN : X.N[i]? = some x := by rfl) (hv : Vis X.env.scope x := by first | exact Or.inl rfl | exact Or.inr (Or.inl rfl) | exact Or.inr (Or.inr rfl)) (hd : (x == ("__debug__" : Str)) = false := by decide)
    (hcd : (x == ("__classdict__" : Str)) = false := by decide) : PE X (.Name x p) (yE X.kx B (mVar i)) := pe_imp (pe_var hN hv hd hcd) fun σ H Q q => by
  obtain ⟨F, ρ, ok, q⟩ := q
  unfold mVar at q
  split at q
  · rename_i d e
    obtain ⟨v, e1, r⟩ := ok.sl i _ e
    exact ⟨v, e1, q F H v (.refl ok.fh ok.dk) r⟩
  · exact q.elim
theorem cb_v (i : Nat) {x : Str} {p : Pos} (hN : X.N[i]? = some x := by rfl) (hv : Vis X.env.scope x := by first | exact Or.inl rfl | exact Or.inr (Or.inl rfl) | exact Or.inr (Or.inr rfl)) (hd : (x == ("__debug__" : Str)) = false := by decide)
    (hcd : (x == ("__classdict__" : Str)) = false := by decide) : PE X (.Name x p) (yB X.kx B (mVarB i)) := pe_imp (pe_var hN hv hd hcd) fun σ H Q q => by
  obtain ⟨F, ρ, ok, q⟩ := q
  unfold mVarB at q
  split at q
  · rename_i d e
    obtain ⟨v, e1, r⟩ := ok.sl i _ e
    exact ⟨v, e1, q F H v (.refl ok.fh ok.dk) (.inl r)⟩
  · rename_i ds e
    obtain ⟨a, vs, e1, ⟨_, _, n⟩, h2, r⟩ := ok.sl i _ e
    exact ⟨.ref a, e1, q F H (.ref a) (.refl ok.fh ok.dk) (.inr ⟨ds, a, vs, rfl, rfl, n, h2, r⟩)⟩
  · exact q.elim
/-- what stands still may be read -/
theorem cb (h : PE X e (yE X.kx B m)) : PE X e (yB X.kx B m) := pe_imp h fun σ H Q ⟨F, ρ, ok, q⟩ => ⟨F, ρ, ok, R.all_imp (fun d z F' H' v e r => z F' H' v e (.inl r)) (fun _ z => z) q⟩
/-- a list of one's own is left to stand still -/
theorem ce_frz {m : Rho → R (List D)} (h : PE X e (yO X.kx B m)) : PE X e (yE X.kx B (mFrz m)) := pe_imp h fun σ H Q ⟨F, ρ, ok, q⟩ => by
  refine ⟨F, ρ, ok, R.all_imp (fun ds z => ?_) (fun _ z => z) (R.all_bind.mp q)⟩
  intro F' H' a vs e n1 n2 h1 r
  refine z (upd F' a (.lst vs)) H' (.ref a) ?_ ?_
  · refine ⟨e.ff.trans (same_upd n1), fun b o w => ?_, e.hh, fun b o w => ?_, e.dk⟩
    · by_cases q : b = a
      · subst q; rw [upd_same] at w; rw [← w]; exact h1
      · rw [upd_ne q] at w; exact e.fh b o w
    · by_cases q : b = a
      · subst q; exact .inr n2
      · rw [upd_ne q] at w; exact e.fr b o w
  · exact Rp.lst upd_same (RpL.mono (same_upd n1) _ _ r)

/-! ### operators -/
/-- what an operator gives, by data -/
def OpD (Z : Kx) (B : Bx) (r : R2) (f : D → D → R D) : Prop := ∀ (x y : D) (v1 v2 : V) (F H : Hp) (Q : VK) (E : D → Prop), Same F H → DealOk B.dl H → RpB Z B F H x v1 → RpB Z B F H y v2 → (f x y).all (PE1 Z B F H Q) E → r v1 v2 H Q
theorem read2 {r : R2} {f : D → D → R D} {Q : VK} {H : Hp} {σ : L2.St} (hf : OpD X.kx B r f) (q : yE X.kx B (mBin f ma mb) σ H Q) : tOp r (yB X.kx B ma) (yB X.kx B mb) σ H Q := by
  obtain ⟨F, ρ, ok, q⟩ := q
  refine seqB ok q fun x F1 H1 v1 e1 r1 q1 => ?_
  refine seqB (ok.step e1) q1 fun y F2 H2 v2 e2 r2 q2 => ?_
  have k := (ok.step e1).step e2
  exact hf x y v1 v2 F2 H2 Q _ k.fh k.dk (r1.step e2) r2 (R.all_imp (fun _ z => (z.step e1).step e2) (fun _ z => z) q2)
theorem ce_op {op : Operator} {r : R2} {f : D → D → R D} (ho : OpR X (binaryOp op) r) (hf : OpD X.kx B r f) (ha : PE X a (yB X.kx B ma)) (hb : PE X b (yB X.kx B mb)) : PE X (.BinOp a op b pos) (yE X.kx B (mBin f ma mb)) :=
  pe_imp (pe_op ho ha hb) fun _ _ _ q => read2 hf q
theorem ce_cmp {op : CmpOp} {r : R2} {f : D → D → R D} (ho : OpR X (compareOp op) r) (hf : OpD X.kx B r f) (ha : PE X a (yB X.kx B ma)) (hb : PE X b (yB X.kx B mb)) (hm : behindInMarks op b = false) : PE X (.Compare a [op] [b] pos) (yE X.kx B (mBin f ma mb)) :=
  pe_imp (pe_cmpR ho ha hb hm) fun _ _ _ q => read2 hf q
theorem ce_ixg {r : R2} {f : D → D → R D} (ho : IxR X r) (hf : OpD X.kx B r f) (ha : PE X a (yB X.kx B ma)) (hb : PE X b (yB X.kx B mb)) (hs : PlainIx b) : PE X (.Subscript a b pos) (yE X.kx B (mBin f ma mb)) :=
  pe_imp (pe_ix ho ha hb hs) fun _ _ _ q => read2 hf q
/-! arguments, displays -/
theorem ca_nil : PA X [] (yA X.kx B mNil) := pa_imp pa_nil fun σ H Q ⟨F, ρ, ok, q⟩ => q F H [] (.refl ok.fh ok.dk) RpL.nil
theorem ca_cons {es : List Expr} {mr : Rho → R (List D)} (ha : PE X a (yE X.kx B ma)) (hr : PA X es (yA X.kx B mr)) (hs : starEach (a :: es) X.env = (false, eval a X.env) :: starEach es X.env := by rfl) : PA X (a :: es) (yA X.kx B (mCons ma mr)) :=
  pa_imp (pa_cons ha hr hs) fun σ H Q ⟨F, ρ, ok, q⟩ => by
    refine seqE ok q fun x F1 H1 v1 e1 r1 q1 => ?_
    refine seqA (ok.step e1) q1 fun xs F2 H2 vs e2 r2 q2 => ?_
    exact q2 F2 H2 (v1 :: vs) (e1.trans e2) (RpL.cons (Rp.mono e2.ff _ _ r1) r2)
theorem ce_tup {es : List Expr} {k : Nat} {mr : Rho → R (List D)} (h : PA X es (yA X.kx B mr)) : PE X (.Tuple es k pos) (yE X.kx B (mTup mr)) := pe_imp (pe_tup h) fun σ H Q ⟨F, ρ, ok, q⟩ => by
  refine seqA ok q fun xs F1 H1 vs e1 r1 q1 => ?_
  obtain ⟨hl, q1⟩ := R.all_grd.mp q1
  have k := ok.step e1
  refine ⟨by rw [RpL.length r1, szl]; exact hl, fun p hp => ?_⟩
  exact q1 _ _ _ (e1.trans (.lay k.fh k.dk hp _)) (Rp.tup upd_same (RpL.mono (same_upd (same_none k.fh hp)) _ _ r1))
theorem co_lst {es : List Expr} {mr : Rho → R (List D)} (h : PA X es (yA X.kx B mr)) : PE X (.List es pos) (yO X.kx B (mLst mr)) := pe_imp (pe_lst h) fun σ H Q ⟨F, ρ, ok, q⟩ => by
  refine seqA ok q fun xs F1 H1 vs e1 r1 q1 => ?_
  obtain ⟨hl, q1⟩ := R.all_grd.mp q1
  have k := ok.step e1
  refine ⟨by rw [RpL.length r1, szl]; exact hl, fun p hp => ?_⟩
  refine q1 _ _ p vs (e1.trans (.own k.fh k.dk hp _)) (same_none k.fh hp) ?_ upd_same r1
  cases z : H p with
  | none => rfl
  | some o =>
    exfalso
    by_cases n : Dl B.dl p
    · exact k.dk.there n hp
    · rw [e1.hh p o z n] at hp; cases hp
end
end Y
/-! # Y3 -/
set_option Elab.async false
set_option linter.all false
set_option maxRecDepth 100000
set_option maxHeartbeats 4000000
namespace Y
open PySem PySem.Spec L2

/-! ### statements -/
inductive Out where
  | next (ρ : Rho) | ret (d : D) | brk (ρ : Rho) | cont (ρ : Rho) | exc (x : D) (ρ : Rho)
namespace R
/-- with a way out for exceptions -/
def bx {α β : Type} (h : D → R β) (f : α → R β) : R α → R β
  | .ok a => f a
  | .exn x => h x
  | .stuck => .stuck
  | .draw b k => .draw b fun r => (k r).bx h f
theorem all_bx {α β : Type} {P : β → Prop} {E : D → Prop} {h : D → R β} {f : α → R β} : ∀ {t : R α}, (t.bx h f).all P E ↔ t.all (fun a => (f a).all P E) (fun x => (h x).all P E)
  | .ok a => Iff.rfl
  | .exn x => Iff.rfl
  | .stuck => Iff.rfl
  | .draw b k => and_congr Iff.rfl (forall_congr' fun r => imp_congr Iff.rfl (imp_congr Iff.rfl (all_bx (t := k r))))
@[simp] theorem bx_ok {α β : Type} (h : D → R β) (a : α) (f : α → R β) : (R.ok a).bx h f = f a := rfl
@[simp] theorem bx_exn {α β : Type} (h : D → R β) (x : D) (f : α → R β) : (R.exn x).bx h f = h x := rfl
@[simp] theorem bx_stuck {α β : Type} (h : D → R β) (f : α → R β) : (R.stuck).bx h f = .stuck := rfl
@[simp] theorem bx_draw {α β : Type} (h : D → R β) (b : Int) (k : Int → R α) (f : α → R β) : (R.draw b k).bx h f = .draw b fun r => (k r).bx h f := rfl
/-- an answer on every way -/
def good {α : Type} (t : R α) : Prop := t.all (fun _ => True) (fun _ => True)
theorem good_of {α : Type} {P : α → Prop} {E : D → Prop} {t : R α} (h : t.all P E) : t.good := all_imp (fun _ _ => trivial) (fun _ _ => trivial) h
end R
section
variable (Z : Kx) (B : Bx)
def OutOk (F0 : Hp) (N : Ends) : Out → Prop
  | .next ρ => ∀ F' H' σ', Same F0 F' → Ok Z B F' H' σ' ρ → N.nx σ' H'
  | .brk ρ => ∀ F' H' σ', Same F0 F' → Ok Z B F' H' σ' ρ → N.bk σ' H'
  | .cont ρ => ∀ F' H' σ', Same F0 F' → Ok Z B F' H' σ' ρ → N.ct σ' H'
  | .ret d => ∀ F' H' v, Ext B.dl B.F B.H F' H' → RpX Z B F' d v → N.rt v H'
  | .exc x ρ => ∀ F' H' σ' c o, Same F0 F' → Ok Z B F' H' σ' ρ → Ex Z B F' x c o → B.W c o σ' H'
def yS (m : Rho → R Out) : TS := fun N σ H => ∃ F ρ, Ok Z B F H σ ρ ∧ (m ρ).all (OutOk Z B F N) (fun _ => False)
end
theorem OutOk.mono {Z : Kx} {B : Bx} {F0 F1 : Hp} {N : Ends} (s : Same F0 F1) : ∀ {o : Out}, OutOk Z B F0 N o → OutOk Z B F1 N o
  | .next ρ, h => fun F' H' σ' s1 k => h F' H' σ' (s.trans s1) k
  | .brk ρ, h => fun F' H' σ' s1 k => h F' H' σ' (s.trans s1) k
  | .cont ρ, h => fun F' H' σ' s1 k => h F' H' σ' (s.trans s1) k
  | .ret d, h => h
  | .exc x ρ, h => fun F' H' σ' c o s1 k => h F' H' σ' c o (s.trans s1) k
theorem outs_mono {Z : Kx} {B : Bx} {F0 F1 : Hp} {N : Ends} (s : Same F0 F1) {t : R Out} (h : t.all (OutOk Z B F0 N) (fun _ => False)) : t.all (OutOk Z B F1 N) (fun _ => False) := R.all_imp (fun _ z => z.mono s) (fun _ z => z) h
/-- an expression's way out, within a statement -/
def lift {α : Type} (ρ : Rho) (t : R α) (f : α → R Out) : R Out := t.bx (fun x => .ok (.exc x ρ)) f
@[simp] theorem lift_ok {α : Type} (ρ : Rho) (a : α) (f : α → R Out) : lift ρ (.ok a) f = f a := rfl
@[simp] theorem lift_exn {α : Type} (ρ : Rho) (x : D) (f : α → R Out) : lift ρ (.exn x) f = .ok (.exc x ρ) := rfl
section
variable {Z : Kx} {B : Bx} {F H F' H' : Hp} {σ : L2.St} {ρ : Rho}
theorem exc_ok' {N : Ends} {y : Y.D} (ok : Ok Z B F H σ ρ) (h : (R.ok (Out.exc y ρ)).all (OutOk Z B F N) (fun _ => False)) : XpE Z B F H σ y := fun F' H' c o e q => h F' H' σ c o e.ff (ok.step e) q
theorem sE {Q : VK} {m : Rho → R Y.D} {g : Y.D → R Out} {N : Ends} (ok : Ok Z B F H σ ρ) (h : (lift ρ (m ρ) g).all (OutOk Z B F N) (fun _ => False))
    (k : ∀ d F' H' v, Ext B.dl F H F' H' → RpX Z B F' d v → (g d).all (OutOk Z B F' N) (fun _ => False) → Q v H') : yE Z B m σ H Q :=
  ⟨F, ρ, ok, R.all_imp (fun d q F' H' v e r => k d F' H' v e r (outs_mono e.ff q)) (fun x z => exc_ok' ok z) (R.all_bx.mp h)⟩
theorem sB {Q : VK} {m : Rho → R Y.D} {g : Y.D → R Out} {N : Ends} (ok : Ok Z B F H σ ρ) (h : (lift ρ (m ρ) g).all (OutOk Z B F N) (fun _ => False))
    (k : ∀ d F' H' v, Ext B.dl F H F' H' → RpB Z B F' H' d v → (g d).all (OutOk Z B F' N) (fun _ => False) → Q v H') : yB Z B m σ H Q :=
  ⟨F, ρ, ok, R.all_imp (fun d q F' H' v e r => k d F' H' v e r (outs_mono e.ff q)) (fun x z => exc_ok' ok z) (R.all_bx.mp h)⟩
theorem sO {Q : VK} {m : Rho → R (List Y.D)} {g : List Y.D → R Out} {N : Ends} (ok : Ok Z B F H σ ρ) (h : (lift ρ (m ρ) g).all (OutOk Z B F N) (fun _ => False))
    (k : ∀ ds F' H' a vs, Ext B.dl F H F' H' → F' a = none → H a = none → H' a = some (.lst vs) → RpLX Z B F' ds vs → (g ds).all (OutOk Z B F' N) (fun _ => False) → Q (.ref a) H') : yO Z B m σ H Q :=
  ⟨F, ρ, ok, R.all_imp (fun d q F' H' a vs e n1 n2 h1 r => k d F' H' a vs e n1 n2 h1 r (outs_mono e.ff q)) (fun x z => exc_ok' ok z) (R.all_bx.mp h)⟩
theorem sA {Q : List V → Hp → Prop} {m : Rho → R (List Y.D)} {g : List Y.D → R Out} {N : Ends} (ok : Ok Z B F H σ ρ) (h : (lift ρ (m ρ) g).all (OutOk Z B F N) (fun _ => False))
    (k : ∀ ds F' H' vs, Ext B.dl F H F' H' → RpLX Z B F' ds vs → (g ds).all (OutOk Z B F' N) (fun _ => False) → Q vs H') : yA Z B m σ H Q :=
  ⟨F, ρ, ok, R.all_imp (fun d q F' H' vs e r => k d F' H' vs e r (outs_mono e.ff q)) (fun x z => exc_ok' ok z) (R.all_bx.mp h)⟩
theorem sT {Q : Bool → Hp → Prop} {m : Rho → R Bool} {g : Bool → R Out} {N : Ends} (ok : Ok Z B F H σ ρ) (h : (lift ρ (m ρ) g).all (OutOk Z B F N) (fun _ => False))
    (k : ∀ b F' H', Ext B.dl F H F' H' → (g b).all (OutOk Z B F' N) (fun _ => False) → Q b H') : yT Z B m σ H Q :=
  ⟨F, ρ, ok, R.all_imp (fun d q F' H' e => k d F' H' e (outs_mono e.ff q)) (fun x z => exc_ok' ok z) (R.all_bx.mp h)⟩

/-! the frame changes -/
theorem Ok.sh (k : Ok Z B F H σ ρ) {d : Y.D} {v : V} (r : RpX Z B F d v) (i : Nat) : Ok Z B F H (σ.set i (some v)) (ρ.set i (.sh d)) := by
  refine ⟨k.ext, k.df, k.dk0, by rw [List.length_set, List.length_set]; exact k.len, fun j s e => ?_, fun j l ds es a ne e1 e2 e3 e4 => ?_⟩
  · by_cases h : i = j
    · subst h
      rw [List.getElem?_set] at e ⊢
      simp only [if_true] at e ⊢
      split at e
      · rename_i hl
        cases e
        rw [if_pos (by rw [k.len]; exact hl)]
        exact ⟨v, rfl, r⟩
      · cases e
    · rw [List.getElem?_set_ne h] at e ⊢
      exact k.sl j s e
  · have h1 : i ≠ j := fun z => by
      subst z
      rw [List.getElem?_set] at e1
      simp only [if_true] at e1
      split at e1 <;> cases e1
    have h2 : i ≠ l := fun z => by
      subst z
      rw [List.getElem?_set] at e2
      simp only [if_true] at e2
      split at e2 <;> cases e2
    rw [List.getElem?_set_ne h1] at e1 e3
    rw [List.getElem?_set_ne h2] at e2 e4
    exact k.inj j l ds es a ne e1 e2 e3 e4
/-- a slot is forgotten -/
theorem Ok.no (k : Ok Z B F H σ ρ) (i : Nat) : Ok Z B F H σ (ρ.set i .no) := by
  refine ⟨k.ext, k.df, k.dk0, by rw [List.length_set]; exact k.len, fun j s e => ?_, fun j l ds es a ne e1 e2 e3 e4 => ?_⟩
  · by_cases h : i = j
    · subst h
      rw [List.getElem?_set] at e
      simp only [if_true] at e
      split at e
      · cases e; trivial
      · cases e
    · rw [List.getElem?_set_ne h] at e
      exact k.sl j s e
  · have h1 : i ≠ j := fun z => by
      subst z
      rw [List.getElem?_set] at e1
      simp only [if_true] at e1
      split at e1 <;> cases e1
    have h2 : i ≠ l := fun z => by
      subst z
      rw [List.getElem?_set] at e2
      simp only [if_true] at e2
      split at e2 <;> cases e2
    rw [List.getElem?_set_ne h1] at e1
    rw [List.getElem?_set_ne h2] at e2
    exact k.inj j l ds es a ne e1 e2 e3 e4
theorem Ext.new_old {dl : DL} {F H F' H' : Hp} (e : Ext dl F H F' H') {a : Addr} (n : H' a = none) : H a = none := by
  cases z : H a with
  | none => rfl
  | some o =>
    exfalso
    by_cases d : Dl dl a
    · exact e.dk.there d n
    · rw [e.hh a o z d] at n; cases n
/-- a new list of one's own comes into a slot -/
theorem Ok.own (k : Ok Z B F H σ ρ) {ds : List Y.D} {a : Addr} {vs : List V} (e : Ext B.dl F H F' H') (n1 : F' a = none) (n2 : H a = none) (h : H' a = some (.lst vs)) (r : RpLX Z B F' ds vs) (i : Nat) :
    Ok Z B F' H' (σ.set i (some (.ref a))) (ρ.set i (.ow ds)) := by
  have k' := k.step e
  have other : ∀ (j : Nat) (es : List Y.D) (b : Addr), ρ[j]? = some (.ow es) → σ[j]? = some (some (.ref b)) → b ≠ a := fun j es b e1 e2 z => by
    subst z
    obtain ⟨b', ws, e3, _, q, _⟩ := k.sl j _ e1
    rw [e2] at e3
    cases e3
    rw [n2] at q; cases q
  refine ⟨k'.ext, k'.df, k'.dk0, by rw [List.length_set, List.length_set]; exact k.len, fun j s e => ?_, fun j l ds es b ne e1 e2 e3 e4 => ?_⟩
  · by_cases h : i = j
    · subst h
      rw [List.getElem?_set] at e ⊢
      simp only [if_true] at e ⊢
      split at e
      · rename_i hl
        cases e
        rw [if_pos (by rw [k.len]; exact hl)]
        exact ⟨a, vs, rfl, ⟨n1, k.ext.new_old n2, k.dk.nof n2⟩, by assumption, r⟩
      · cases e
    · rw [List.getElem?_set_ne h] at e ⊢
      exact k'.sl j s e
  · by_cases h1 : i = j
    · subst h1
      have h2 : i ≠ l := ne
      rw [List.getElem?_set_ne h2] at e2 e4
      rw [List.getElem?_set] at e3
      simp only [if_true] at e3
      split at e3
      · cases e3
        exact other l es a e2 e4 rfl
      · cases e3
    · rw [List.getElem?_set_ne h1] at e1 e3
      by_cases h2 : i = l
      · subst h2
        rw [List.getElem?_set] at e4
        simp only [if_true] at e4
        split at e4
        · cases e4
          exact other j ds a e1 e3 rfl
        · cases e4
      · rw [List.getElem?_set_ne h2] at e2 e4
        exact k'.inj j l ds es b ne e1 e2 e3 e4
/-- a list of one's own is changed -/
theorem Ok.mut (k : Ok Z B F H σ ρ) {i : Nat} {ds ds' : List Y.D} {a : Addr} {vs' : List V} (e : ρ[i]? = some (.ow ds)) (ea : σ[i]? = some (some (.ref a))) (r : RpLX Z B F ds' vs') : Ok Z B F (upd H a (.lst vs')) σ (ρ.set i (.ow ds')) := by
  obtain ⟨a', vs, ea', ⟨o1, o2, o3⟩, h1, r1⟩ := k.sl i _ e
  rw [ea] at ea'
  cases ea'
  refine ⟨⟨k.ext.ff, fun b o w => ?_, fun b o w n => ?_, k.ext.fr, k.ext.dk.upd o3⟩, k.df, k.dk0, by rw [List.length_set]; exact k.len, fun j s e' => ?_, fun j l ds es b ne e1 e2 e3 e4 => ?_⟩
  · rw [upd_ne (fun z => by subst z; rw [o1] at w; cases w)]
    exact k.fh b o w
  · rw [upd_ne (fun z => by subst z; rw [o2] at w; cases w)]
    exact k.ext.hh b o w n
  · by_cases h : i = j
    · subst h
      rw [List.getElem?_set] at e'
      simp only [if_true] at e'
      split at e'
      · cases e'
        exact ⟨a, vs', ea, ⟨o1, o2, o3⟩, upd_same, r⟩
      · cases e'
    · rw [List.getElem?_set_ne h] at e'
      cases s with
      | ex n es => exact k.sl j _ e'
      | no => trivial
      | sh d => exact k.sl j _ e'
      | ow es =>
        obtain ⟨b, ws, e5, p, q, r2⟩ := k.sl j _ e'
        refine ⟨b, ws, e5, p, ?_, r2⟩
        rw [upd_ne (fun z => by
          subst z
          exact k.inj j i _ _ b (Ne.symm h) e' e e5 ea)]
        exact q
      | me c es =>
        obtain ⟨b, C, dx, fs, e5, p, g, q, ek, r2⟩ := k.sl j _ e'
        refine ⟨b, C, dx, fs, e5, p, g, ?_, ek, r2⟩
        rw [upd_ne (fun z => by
          subst z
          rw [h1] at q
          cases q)]
        exact q
      | dc kvs =>
        obtain ⟨b, vs2, e5, p, q, ek, r2⟩ := k.sl j _ e'
        refine ⟨b, vs2, e5, p, ?_, ek, r2⟩
        rw [upd_ne (fun z => by
          subst z
          rw [h1] at q
          cases q)]
        exact q
  · have w1 : ∃ ds', ρ[j]? = some (.ow ds') := by
      by_cases h : i = j
      · subst h; exact ⟨_, e⟩
      · rw [List.getElem?_set_ne h] at e1; exact ⟨_, e1⟩
    have w2 : ∃ ds', ρ[l]? = some (.ow ds') := by
      by_cases h : i = l
      · subst h; exact ⟨_, e⟩
      · rw [List.getElem?_set_ne h] at e2; exact ⟨_, e2⟩
    obtain ⟨_, w1⟩ := w1
    obtain ⟨_, w2⟩ := w2
    exact k.inj j l _ _ b ne w1 w2 e3 e4
/-- a list of one's own stands still from now on -/
theorem Ok.frz (k : Ok Z B F H σ ρ) {i : Nat} {ds : List Y.D} (e : ρ[i]? = some (.ow ds)) : ∃ F', Same F F' ∧ Ok Z B F' H σ (ρ.set i (.sh (.lst ds))) := by
  obtain ⟨a, vs, ea, ⟨o1, o2, o3⟩, h1, r1⟩ := k.sl i _ e
  have ss : Same F (upd F a (.lst vs)) := same_upd o1
  refine ⟨upd F a (.lst vs), ss, ⟨k.ext.ff.trans ss, fun b o w => ?_, k.ext.hh, fun b o w => ?_, k.ext.dk⟩, fun b hb => ?_, k.dk0, by rw [List.length_set]; exact k.len, fun j s e' => ?_, fun j l ds es b ne e1 e2 e3 e4 => ?_⟩
  · by_cases q : b = a
    · subst q; rw [upd_same] at w; rw [← w]; exact h1
    · rw [upd_ne q] at w; exact k.fh b o w
  · by_cases q : b = a
    · subst q; exact .inr o2
    · rw [upd_ne q] at w; exact k.ext.fr b o w
  · rw [upd_ne (fun z => o3 (by rw [← z]; exact hb))]
    exact k.df b hb
  · by_cases h : i = j
    · subst h
      rw [List.getElem?_set] at e'
      simp only [if_true] at e'
      split at e'
      · cases e'
        exact ⟨.ref a, ea, Rp.lst upd_same (RpL.mono ss _ _ r1)⟩
      · cases e'
    · rw [List.getElem?_set_ne h] at e'
      cases s with
      | ex n es =>
        obtain ⟨C, dd, fs, e5, hd, g, q, ek, r2⟩ := k.sl j _ e'
        exact ⟨C, dd, fs, e5, hd, g, ss _ _ q, ek, RpL.mono ss _ _ r2⟩
      | no => trivial
      | sh d =>
        obtain ⟨v, e5, r⟩ := k.sl j _ e'
        exact ⟨v, e5, Rp.mono ss _ _ r⟩
      | ow es =>
        obtain ⟨b, ws, e5, ⟨p1, p2, p3⟩, q, r2⟩ := k.sl j _ e'
        refine ⟨b, ws, e5, ⟨?_, p2, p3⟩, q, RpL.mono ss _ _ r2⟩
        rw [upd_ne (fun z => by
          subst z
          exact k.inj j i _ _ b (Ne.symm h) e' e e5 ea)]
        exact p1
      | me c es =>
        obtain ⟨b, C, dx, fs, e5, ⟨⟨p1, p2, p3⟩, px⟩, g, q, ek, r2⟩ := k.sl j _ e'
        refine ⟨b, C, dx, fs, e5, ⟨⟨?_, p2, p3⟩, px⟩, g, q, ek, RpL.mono ss _ _ r2⟩
        rw [upd_ne (fun z => by
          subst z
          rw [h1] at q
          cases q)]
        exact p1
      | dc kvs =>
        obtain ⟨b, vs2, e5, ⟨p1, p2, p3⟩, q, ek, r2⟩ := k.sl j _ e'
        refine ⟨b, vs2, e5, ⟨?_, p2, p3⟩, q, ek, RpL.mono ss _ _ r2⟩
        rw [upd_ne (fun z => by
          subst z
          rw [h1] at q
          cases q)]
        exact p1
  · have h1 : i ≠ j := fun z => by
      subst z
      rw [List.getElem?_set] at e1
      simp only [if_true] at e1
      split at e1 <;> cases e1
    have h2 : i ≠ l := fun z => by
      subst z
      rw [List.getElem?_set] at e2
      simp only [if_true] at e2
      split at e2 <;> cases e2
    rw [List.getElem?_set_ne h1] at e1
    rw [List.getElem?_set_ne h2] at e2
    exact k.inj j l _ _ b ne e1 e2 e3 e4
end

/-! ### blocks, small statements -/
def mSeq (a b : Rho → R Out) : Rho → R Out := fun ρ => (a ρ).bind fun o => match o with
  | .next ρ' => b ρ'
  | o => .ok o
def mSkip : Rho → R Out := fun ρ => .ok (.next ρ)
def mBrk : Rho → R Out := fun ρ => .ok (.brk ρ)
def mCnt : Rho → R Out := fun ρ => .ok (.cont ρ)
def mRet (m : Rho → R D) : Rho → R Out := fun ρ => lift ρ (m ρ) fun d => .ok (.ret d)
def mSet (i : Nat) (m : Rho → R D) : Rho → R Out := fun ρ => lift ρ (m ρ) fun d => .ok (.next (ρ.set i (.sh d)))
def mOwn (i : Nat) (m : Rho → R (List D)) : Rho → R Out := fun ρ => lift ρ (m ρ) fun ds => .ok (.next (ρ.set i (.ow ds)))
def mDrop (m : Rho → R D) : Rho → R Out := fun ρ => lift ρ (m ρ) fun _ => .ok (.next ρ)
def mIf (t : Rho → R Bool) (a b : Rho → R Out) : Rho → R Out := fun ρ => lift ρ (t ρ) fun c => if c = true then a ρ else b ρ
def mFrzS (i : Nat) (m : Rho → R Out) : Rho → R Out := fun ρ => match ρ[i]? with
  | some (.ow ds) => m (ρ.set i (.sh (.lst ds)))
  | _ => m ρ
def mNo (i : Nat) (m : Rho → R Out) : Rho → R Out := fun ρ => m (ρ.set i .no)
section
variable {X : Cx} {B : Bx} {st : Stmt} {rest : List Stmt} {e : Expr} {pos : Pos} {m1 m2 : Rho → R Out} {m : Rho → R D}
theorem css_nil : PSs X [] (yS X.kx B mSkip) := pss_imp pss_nil fun N σ H ⟨F, ρ, ok, q⟩ => q F H σ (Same.refl F) ok
theorem css_cons (h1 : PS X st (yS X.kx B m1)) (h2 : PSs X rest (yS X.kx B m2)) : PSs X (st :: rest) (yS X.kx B (mSeq m1 m2)) := pss_imp (pss_cons h1 h2) fun N σ H ⟨F, ρ, ok, q⟩ => by
  refine ⟨F, ρ, ok, R.all_imp (fun o z => ?_) (fun _ z => z) (R.all_bind.mp q)⟩
  cases o with
  | next ρ' => exact fun F' H' σ' s k => ⟨F', ρ', k, outs_mono s z⟩
  | ret d => exact z
  | brk ρ' => exact z
  | cont ρ' => exact z
  | exc x ρ' => exact z
theorem css_one (h1 : PS X st (yS X.kx B m1)) : PSs X [st] (yS X.kx B m1) := pss_one h1
theorem css_frz {sts : List Stmt} (i : Nat) (h : PSs X sts (yS X.kx B m1)) : PSs X sts (yS X.kx B (mFrzS i m1)) := pss_imp h fun N σ H ⟨F, ρ, ok, q⟩ => by
  unfold mFrzS at q
  split at q
  · rename_i ds e
    obtain ⟨F', s, k⟩ := ok.frz e
    exact ⟨F', _, k, outs_mono s q⟩
  · exact ⟨F, ρ, ok, q⟩
theorem css_no {sts : List Stmt} (i : Nat) (h : PSs X sts (yS X.kx B m1)) : PSs X sts (yS X.kx B (mNo i m1)) := pss_imp h fun N σ H ⟨F, ρ, ok, q⟩ => ⟨F, _, ok.no i, q⟩
theorem cs_pass : PS X (.Pass pos) (yS X.kx B mSkip) := ps_imp ps_pass fun N σ H ⟨F, ρ, ok, q⟩ => q F H σ (Same.refl F) ok
theorem cs_break : PS X (.Break pos) (yS X.kx B mBrk) := ps_imp ps_break fun N σ H ⟨F, ρ, ok, q⟩ => q F H σ (Same.refl F) ok
theorem cs_continue : PS X (.Continue pos) (yS X.kx B mCnt) := ps_imp ps_continue fun N σ H ⟨F, ρ, ok, q⟩ => q F H σ (Same.refl F) ok
theorem cs_ret (h : PE X e (yE X.kx B m)) : PS X (.Return (some e) pos) (yS X.kx B (mRet m)) := ps_imp (ps_ret h) fun N σ H ⟨F, ρ, ok, q⟩ =>
  sE ok q fun d F' H' v e1 r z => z F' H' v (ok.step e1).ext r
theorem cs_retN : PS X (.Return none pos) (yS X.kx B (mRet (mC .non))) := ps_imp ps_retN fun N σ H ⟨F, ρ, ok, q⟩ => q F H .non ok.ext Rp.non
theorem cs_drop (h : PE X e (yE X.kx B m)) (hs : swapsWith e none pos.line X.env = pure false := by rfl) : PS X (.Expr e pos) (yS X.kx B (mDrop m)) := ps_imp (ps_expr h hs) fun N σ H ⟨F, ρ, ok, q⟩ =>
  sE ok q fun d F' H' v e1 r z => z F' H' σ (Same.refl F') (ok.step e1)
theorem cs_if {a b : List Stmt} {t : Rho → R Bool} (ht : PT X e (yT X.kx B t)) (ha : PSs X a (yS X.kx B m1)) (hb : PSs X b (yS X.kx B m2)) : PS X (.If e a b pos) (yS X.kx B (mIf t m1 m2)) := ps_imp (ps_if ht ha hb) fun D σ H ⟨F, ρ, ok, q⟩ =>
  sT ok q fun c F' H' e1 z => by
    cases c with
    | true => exact ⟨F', ρ, ok.step e1, z⟩
    | false => exact ⟨F', ρ, ok.step e1, z⟩
/-- what a store into a name asks of the value's reading -/
theorem set_read {i : Nat} {te : TE} (ht : ∀ σ H Q, yE X.kx B m σ H Q → te σ H Q) : ∀ D σ H, yS X.kx B (mSet i m) D σ H → tAsg te (gName i) D σ H := fun D σ H ⟨F, ρ, ok, q⟩ =>
  ht σ H _ (sE ok q fun d F' H' v e1 r z => z F' H' _ (Same.refl F') ((ok.step e1).sh r i))
theorem own_read {i : Nat} {m : Rho → R (List Y.D)} {te : TE} (ht : ∀ σ H Q, yO X.kx B m σ H Q → te σ H Q) : ∀ D σ H, yS X.kx B (mOwn i m) D σ H → tAsg te (gName i) D σ H := fun D σ H ⟨F, ρ, ok, q⟩ =>
  ht σ H _ (sO ok q fun d F' H' a vs e1 n1 n2 h1 r z => z F' H' _ (Same.refl F') (ok.own e1 n1 n2 h1 r i))
theorem cs_set (i : Nat) {x : Str} {p' : Pos} (hN : X.N.Nodup) (he : PE X e (yE X.kx B m)) (hi : X.N[i]? = some x := by rfl) (hx : Loc X.env.scope x := by first | exact Or.inl rfl | exact Or.inr rfl)
    (hs : swapsWith e (some (.Name x p')) pos.line X.env = pure false := by rfl) (hf : X.fn x = true ∨ X.env.scope.names.lookup x = some .local := by first | exact .inl rfl | exact .inr rfl) : PS X (.Assign [.Name x p'] e pos) (yS X.kx B (mSet i m)) :=
  ps_imp (ps_set hN hi hx he hs hf) (set_read fun _ _ _ q => q)
theorem cs_own (i : Nat) {x : Str} {p' : Pos} {m : Rho → R (List Y.D)} (hN : X.N.Nodup) (he : PE X e (yO X.kx B m)) (hi : X.N[i]? = some x := by rfl) (hx : Loc X.env.scope x := by first | exact Or.inl rfl | exact Or.inr rfl)
    (hs : swapsWith e (some (.Name x p')) pos.line X.env = pure false := by rfl) (hf : X.fn x = true ∨ X.env.scope.names.lookup x = some .local := by first | exact .inl rfl | exact .inr rfl) : PS X (.Assign [.Name x p'] e pos) (yS X.kx B (mOwn i m)) :=
  ps_imp (ps_set hN hi hx he hs hf) (own_read fun _ _ _ q => q)
end
end Y
/-! # Y4 -/
set_option Elab.async false
set_option linter.all false
set_option maxRecDepth 100000
set_option maxHeartbeats 4000000
namespace Y
open PySem PySem.Spec L2

/-! ### targets -/
abbrev Bnd := D → Rho → Option Rho
section
variable (Z : Kx) (B : Bx)
def yG (ws : List Nat) (b : Bnd) : TG := fun v σ H Q => ∃ F ρ d ρ', Ok Z B F H σ ρ ∧ RpX Z B F d v ∧ b d ρ = some ρ' ∧ ∀ σ', Ok Z B F H σ' ρ' → wipe σ' ws = wipe σ ws → Q σ' H
def yGs (ws : List Nat) (b : List D → Rho → Option Rho) : TGs := fun vs σ H Q => ∃ F ρ ds ρ', Ok Z B F H σ ρ ∧ RpLX Z B F ds vs ∧ b ds ρ = some ρ' ∧ ∀ σ', Ok Z B F H σ' ρ' → wipe σ' ws = wipe σ ws → Q σ' H
end
def bName (i : Nat) : Bnd := fun d ρ => some (ρ.set i (.sh d))
def bNil : List D → Rho → Option Rho := fun ds ρ => if ds.isEmpty then some ρ else none
def bCons (b : Bnd) (r : List D → Rho → Option Rho) : List D → Rho → Option Rho := fun ds ρ => match ds with
  | d :: ds => match b d ρ with
    | some ρ' => r ds ρ'
    | none => none
  | [] => none
def bTup (b : List D → Rho → Option Rho) : Bnd := fun d ρ => match d with
  | .tup ds => b ds ρ
  | _ => none
section
variable {X : Cx} {B : Bx} {pos : Pos} {ws : List Nat}
theorem wipe_in {σ : L2.St} {i : Nat} {v : Option V} : ∀ {ws : List Nat}, i ∈ ws → wipe (σ.set i v) ws = wipe σ ws
  | [], h => by simp at h
  | w :: ws, h => by
    unfold wipe
    by_cases e : i ∈ ws
    · rw [wipe_in e]
    · have ew : i = w := by
        rcases List.mem_cons.mp h with q | q
        · exact q
        · exact absurd q e
      subst ew
      have key : ∀ us : List Nat, i ∉ us → wipe (σ.set i v) us = (wipe σ us).set i v := fun us => by
        induction us with
        | nil => intro _; rfl
        | cons u us ih =>
          intro hn
          unfold wipe
          rw [ih (fun z => hn (List.mem_cons_of_mem _ z)), List.set_comm _ _ (fun z => hn (by rw [← z]; exact List.mem_cons_self ..))]
      rw [key ws e, List.set_set]
theorem cg_name (i : Nat) {x : Str} (hN : X.N.Nodup) (hi : X.N[i]? = some x := by rfl) (hx : Loc X.env.scope x := by first | exact Or.inl rfl | exact Or.inr rfl) (hf : X.fn x = true ∨ X.env.scope.names.lookup x = some .local := by first | exact .inl rfl | exact .inr rfl) (hw : i ∈ ws := by decide) : PG X (.Name x pos) (yG X.kx B ws (bName i)) := ⟨fun pins s σ H v u Q I r ⟨F, ρ, d, ρ', ok, rp, e, k⟩ => (pg_name hN hi hx hf).run pins s σ H v u Q I r (by
      cases e
      exact k _ (ok.sh rp i) (wipe_in hw))⟩
theorem cgs_nil : PGs X [] (yGs X.kx B ws bNil) := ⟨fun pins s σ H vs us Q I r ⟨F, ρ, ds, ρ', ok, rp, e, k⟩ => pgs_nil.run pins s σ H vs us Q I r (by
      unfold bNil at e
      cases ds with
      | nil =>
        unfold RpLX RpL at rp
        cases e
        exact ⟨rp, k σ ok rfl⟩
      | cons d ds => cases e)⟩
theorem cgs_cons {t : Expr} {ts : List Expr} {b : Bnd} {bs : List D → Rho → Option Rho} (h1 : PG X t (yG X.kx B ws b)) (h2 : PGs X ts (yGs X.kx B ws bs))
    (hs : (assignEach (t :: ts) X.env).map (·.2) = assign t X.env :: (assignEach ts X.env).map (·.2) := by rfl) : PGs X (t :: ts) (yGs X.kx B ws (bCons b bs)) := ⟨fun pins s σ H vs us Q I r ⟨F, ρ, ds, ρ', ok, rp, e, k⟩ =>
  (pgs_cons h1 h2 hs).run pins s σ H vs us Q I r (by
      unfold bCons at e
      cases ds with
      | nil => cases e
      | cons d ds =>
        unfold RpLX RpL at rp
        obtain ⟨v, r', rfl, q1, q2⟩ := rp
        simp only at e
        cases hb : b d ρ with
        | none => rw [hb] at e; cases e
        | some ρ1 =>
          rw [hb] at e
          exact ⟨v, r', rfl, F, ρ, d, ρ1, ok, q1, hb, fun σ' ok' w' => ⟨F, ρ1, ds, ρ', ok', q2, e, fun σ2 ok2 w2 => k σ2 ok2 (w2.trans w')⟩⟩)⟩
theorem cg_tup {es : List Expr} {k n : Nat} {bs : List D → Rho → Option Rho} (hc : X.calm = true) (h : PGs X es (yGs X.kx B ws bs))
    (hz : ∀ ds ρ ρ', bs ds ρ = some ρ' → ds.length = n) (hn : (assignEach es X.env).length = n := by rfl) (hst : (assignEach es X.env).findIdx? (·.1) = none := by rfl) : PG X (.Tuple es k pos) (yG X.kx B ws (bTup bs)) := ⟨fun pins s σ H v u Q I r ⟨F, ρ, d, ρ', ok, rp, e, kk⟩ =>
  (pg_tup hc h hn hst).run pins s σ H v u Q I r (by
      unfold bTup at e
      split at e
      · rename_i ds
        unfold RpX Rp at rp
        obtain ⟨a, vs, rfl, q1, q2⟩ := rp
        exact ⟨a, vs, rfl, .inl (.inl (ok.fh _ _ q1)), by rw [RpL.length q2]; exact hz _ _ _ e, F, ρ, ds, ρ', ok, q2, e, kk⟩
      · cases e)⟩
end
theorem bn0 : ∀ ds ρ ρ', bNil ds ρ = some ρ' → ds.length = 0 := fun ds ρ ρ' e => by
  cases ds with
  | nil => rfl
  | cons d ds => cases e
theorem bnS {b : Bnd} {bs : List D → Rho → Option Rho} {n : Nat} (h : ∀ ds ρ ρ', bs ds ρ = some ρ' → ds.length = n) : ∀ ds ρ ρ', bCons b bs ds ρ = some ρ' → ds.length = n + 1 := fun ds ρ ρ' e => by
  cases ds with
  | nil => cases e
  | cons d ds =>
    unfold bCons at e
    simp only at e
    split at e
    · rw [List.length_cons, h _ _ _ e]
    · cases e

/-! ### what is walked -/
/-- it gives these data one after another, as long as what is frozen stands -/
structure Wk (Z : Kx) (B : Bx) (J : It) (ds : List D) (F : Hp) : Prop where
  go : ∀ F1 H1 i, Same F F1 → Same F1 H1 → i < ds.length → J.go i H1
  stop : ∀ F1 H1, Same F F1 → Same F1 H1 → J.stop ds.length H1
  yld : ∀ F1 H1 i x H2 d, Same F F1 → Same F1 H1 → DealOk B.dl H1 → ds[i]? = some d → J.yld i H1 x H2 → ∃ F2, Ext B.dl F1 H1 F2 H2 ∧ RpX Z B F2 d x
section
variable (Z : Kx) (B : Bx)
def PI1 (F H : Hp) (R : It → Hp → Prop) : List D → Prop := fun ds => ∀ F' H' J, Ext B.dl F H F' H' → Wk Z B J ds F' → R J H'
def yI (m : Rho → R (List D)) : TI := fun σ H R => ∃ F ρ, Ok Z B F H σ ρ ∧ (m ρ).all (PI1 Z B F H R) (XpE Z B F H σ)
end
/-- the items of a list or a tuple -/
def dIter : D → R (List D)
  | .lst ds => .ok ds
  | .tup ds => .ok ds
  | _ => .stuck
def mIter (m : Rho → R D) : Rho → R (List D) := fun ρ => (m ρ).bind dIter
def rangeD (lo : Int) (n : Nat) (c : Int) : List D := (List.range n).map fun i => .int (lo + (i : Nat) * c)
def big (i : Int) : Prop := -(2 ^ 62) ≤ i ∧ i < 2 ^ 62
instance (i : Int) : Decidable (big i) := inferInstanceAs (Decidable (_ ∧ _))
def dRange1 : List D → R (List D)
  | [.int j] => R.grd (big j) (.ok (rangeD 0 j.toNat 1))
  | _ => .stuck
def dRange2 : List D → R (List D)
  | [.int i, .int j] => R.grd (big i ∧ big j) (.ok (rangeD i (j - i).toNat 1))
  | _ => .stuck
/-- turns of a range with step c -/
def stepsN (i j c : Int) : Nat := if 0 < c then ((j - i + c - 1) / c).toNat else ((i - j - c - 1) / (-c)).toNat
def mArgs (f : List D → R (List D)) (m : Rho → R (List D)) : Rho → R (List D) := fun ρ => (m ρ).bind f
section
variable {X : Cx} {B : Bx} {e : Expr} {tg : Expr} {m : Rho → R D} {F : Hp}
theorem wk_list {a : Addr} {vs : List V} {ds : List D} (h : F a = some (.lst vs)) (r : RpLX X.kx B F ds vs) : Wk X.kx B (Itl X.K a) ds F where
  go := fun F1 H1 i s1 s2 hi => by
    rw [← RpL.length r] at hi
    exact ⟨vs, vs[i], .inl (.inl (s2 _ _ (s1 _ _ h))), by simp [hi]⟩
  stop := fun F1 H1 s1 s2 => ⟨vs, .inl (.inl (s2 _ _ (s1 _ _ h))), by rw [RpL.length r]; exact Nat.le_refl _⟩
  yld := fun F1 H1 i x H2 d s1 s2 k hd y => by
    obtain ⟨v, e, q⟩ := RpL.get r hd
    obtain ⟨rfl, y⟩ := y
    have e2 := y vs (.inl (.inl (s2 _ _ (s1 _ _ h))))
    rw [e] at e2
    cases e2
    exact ⟨F1, .refl s2 k, Rp.mono s1 _ _ q⟩
theorem wk_tup {a : Addr} {vs : List V} {ds : List D} (h : F a = some (.tup vs)) (r : RpLX X.kx B F ds vs) : Wk X.kx B (Itt X.K a) ds F where
  go := fun F1 H1 i s1 s2 hi => by
    rw [← RpL.length r] at hi
    exact ⟨vs, vs[i], .inl (.inl (s2 _ _ (s1 _ _ h))), by simp [hi]⟩
  stop := fun F1 H1 s1 s2 => ⟨vs, .inl (.inl (s2 _ _ (s1 _ _ h))), by rw [RpL.length r]; exact Nat.le_refl _⟩
  yld := fun F1 H1 i x H2 d s1 s2 k hd y => by
    obtain ⟨v, e, q⟩ := RpL.get r hd
    obtain ⟨rfl, y⟩ := y
    have e2 := y vs (.inl (.inl (s2 _ _ (s1 _ _ h))))
    rw [e] at e2
    cases e2
    exact ⟨F1, .refl s2 k, Rp.mono s1 _ _ q⟩
theorem rangeD_len (lo : Int) (n : Nat) (c : Int) : (rangeD lo n c).length = n := by simp [rangeD]
theorem rangeD_get {lo : Int} {n : Nat} {c : Int} {i : Nat} {d : D} (h : (rangeD lo n c)[i]? = some d) : d = .int (lo + (i : Nat) * c) := by
  unfold rangeD at h
  rw [List.getElem?_map] at h
  cases q : (List.range n)[i]? with
  | none => rw [q] at h; cases h
  | some k =>
    rw [q] at h
    have := List.getElem?_range (n := n) (i := i)
    rw [List.getElem?_eq_some_iff] at q
    obtain ⟨_, q⟩ := q
    simp at q
    subst q
    simpa using h.symm
theorem wk_range {lo : Int} {n : Nat} : Wk X.kx B (Itr lo n) (rangeD lo n 1) F where
  go := fun F1 H1 i _ _ hi => by rw [rangeD_len] at hi; exact hi
  stop := fun F1 H1 _ _ => by rw [rangeD_len]; exact Nat.le_refl n
  yld := fun F1 H1 i x H2 d _ s2 k hd y => by
    obtain ⟨rfl, rfl⟩ := y
    rw [rangeD_get hd, Int.mul_one]
    exact ⟨F1, .refl s2 k, Rp.int _⟩
theorem wk_rangeC {lo c : Int} {n : Nat} : Wk X.kx B (Itc lo c n) (rangeD lo n c) F where
  go := fun F1 H1 i _ _ hi => by rw [rangeD_len] at hi; exact hi
  stop := fun F1 H1 _ _ => by rw [rangeD_len]; exact Nat.le_refl n
  yld := fun F1 H1 i x H2 d _ s2 k hd y => by
    obtain ⟨rfl, rfl⟩ := y
    rw [rangeD_get hd]
    exact ⟨F1, .refl s2 k, Rp.int _⟩
/-- the items of a thing that is walked, its kind told by itself -/
theorem pi_both {l : Expr} {tl : TE} (hl : PE X l tl) : PI X tg l (fun σ H R => tl σ H fun x H1 => ∃ a, x = .ref a ∧ ((∃ xs, SqL X.K H1 a xs) ∧ R (Itl X.K a) H1 ∨ (∃ xs, SqT X.K H1 a xs) ∧ R (Itt X.K a) H1)) := ⟨fun pins s σ H R I h =>
  thn (hl.run pins s σ H _ I h) fun v s1 ⟨x, H1, I1, r1, a, e, q⟩ => by
    subst e
    obtain rfl : v = Value.ref a := r1
    have fp : ∀ b ∈ [s1.heap.objs.size], FpOk X pins H1 b := fun b hb => by
      rw [List.mem_singleton.mp hb]
      exact I1.fpOk (Nat.le_refl _) (I1.hok.fresh (Nat.le_refl _))
    rcases q with ⟨⟨xs, hq⟩, q⟩ | ⟨⟨xs, hq⟩, q⟩
    · obtain ⟨its, rv, p, hz⟩ := I1.list hq
      refine wpAny_pyIter_list p.isList ⟨_, _, _, _, H1, rfl, I1.kept (t' := s1.toks) fun b o z => Heap.get?_push_of_some _ z, turn_list a _, ⟨_, Heap.get?_push_size _ rfl, rfl, rfl⟩, fp, q⟩
    · obtain ⟨its, rv, p, hz⟩ := I1.tuple hq
      refine wpAny_pyIter_tuple (items := its.toArray) p ⟨_, _, _, _, H1, rfl, I1.kept (t' := s1.toks) fun b o z => Heap.get?_push_of_some _ z, turn_tuple a _, ⟨_, Heap.get?_push_size _ rfl, rfl, rfl⟩, fp, q⟩⟩
theorem ci_seq (h : PE X e (yE X.kx B m)) : PI X tg e (yI X.kx B (mIter m)) := pi_imp (pi_both h) fun σ H T ⟨F, ρ, ok, q⟩ => seqE ok q fun d F' H' v e1 r q1 => by
  have k := ok.step e1
  cases d with
  | lst ds =>
    unfold RpX Rp at r
    obtain ⟨a, vs, rfl, h1, r1⟩ := r
    exact ⟨a, rfl, .inl ⟨⟨vs, .inl (.inl (k.fh _ _ h1))⟩, q1 F' H' _ e1 (wk_list h1 r1)⟩⟩
  | tup ds =>
    unfold RpX Rp at r
    obtain ⟨a, vs, rfl, h1, r1⟩ := r
    exact ⟨a, rfl, .inr ⟨⟨vs, .inl (.inl (k.fh _ _ h1))⟩, q1 F' H' _ e1 (wk_tup h1 r1)⟩⟩
  | non => exact q1.elim
  | bl b => exact q1.elim
  | int b => exact q1.elim
  | str b => exact q1.elim
  | obj c vs => exact q1.elim
  | deal => exact q1.elim
theorem ci_range1 {a : Expr} {p pos : Pos} {ma : Rho → R (List D)} (hm : X.mg "range" = none) (ha : PA X [a] (yA X.kx B ma)) (hg : Gl X "range" := by rfl) (hs : starEach [a] X.env = [(false, eval a X.env)] := by rfl) :
    PI X tg (.Call (.Name "range" p) [a] [] pos) (yI X.kx B (mArgs dRange1 ma)) := pi_imp (pi_range1 hg hm ha hs) fun σ H T ⟨F, ρ, ok, q⟩ => seqA ok q fun ds F' H' vs e1 r q1 => by
  unfold dRange1 at q1
  split at q1
  · rename_i j
    obtain ⟨hb, q1⟩ := R.all_grd.mp q1
    unfold RpLX RpL at r
    obtain ⟨v, r', rfl, r1, r2⟩ := r
    unfold RpL at r2
    unfold Rp at r1
    subst r1 r2
    exact ⟨j, rfl, hb.1, hb.2, q1 F' H' _ e1 wk_range⟩
  · exact q1.elim
theorem ci_range2 {a b : Expr} {p pos : Pos} {ma : Rho → R (List D)} (hm : X.mg "range" = none) (ha : PA X [a, b] (yA X.kx B ma)) (hg : Gl X "range" := by rfl) (hs : starEach [a, b] X.env = [(false, eval a X.env), (false, eval b X.env)] := by rfl) (hs2 : starEach [b] X.env = [(false, eval b X.env)] := by rfl) :
    PI X tg (.Call (.Name "range" p) [a, b] [] pos) (yI X.kx B (mArgs dRange2 ma)) := pi_imp (pi_range2 hg hm ha hs hs2) fun σ H T ⟨F, ρ, ok, q⟩ => seqA ok q fun ds F' H' vs e1 r q1 => by
  unfold dRange2 at q1
  split at q1
  · rename_i i j
    obtain ⟨hb, q1⟩ := R.all_grd.mp q1
    unfold RpLX RpL at r
    obtain ⟨v, r', rfl, r1, r2⟩ := r
    unfold RpL at r2
    obtain ⟨v2, r3, rfl, r4, r5⟩ := r2
    unfold RpL at r5
    unfold Rp at r1 r4
    subst r1 r4 r5
    exact ⟨i, j, rfl, ⟨hb.1.1, hb.1.2, hb.2.1, hb.2.2⟩, q1 F' H' _ e1 wk_range⟩
  · exact q1.elim
end

/-! ### for -/
def fLoop (b : D → Rho → R Out) : List D → Rho → R Out
  | [], ρ => .ok (.next ρ)
  | x :: xs, ρ => (b x ρ).bind fun o => match o with
    | .next ρ' => fLoop b xs ρ'
    | .cont ρ' => fLoop b xs ρ'
    | .brk ρ' => .ok (.next ρ')
    | o => .ok o
/-- a turn: the target is stored, then the body -/
def turnM (b : Bnd) (body : Rho → R Out) : D → Rho → R Out := fun x ρ => match b x ρ with
  | some ρ' => body ρ'
  | none => .stuck
def mFor (mi : Rho → R (List D)) (b : Bnd) (body : Rho → R Out) : Rho → R Out := fun ρ => lift ρ (mi ρ) fun xs => fLoop (turnM b body) xs ρ
section
variable {X : Cx} {B : Bx} {tg iter : Expr} {body : List Stmt} {mi : Rho → R (List D)} {b : Bnd} {mb : Rho → R Out} {pos : Pos} {ws : List Nat}
theorem cs_for (hp : PassesOwn (model X.prog X.w) X.A X.env X.xe) (hc : X.calm = true) (hi : PI X tg iter (yI X.kx B mi)) (hg : PG X tg (yG X.kx B ws b)) (hb : PSs X body (yS X.kx B mb))
    (hs : ∀ x, foldedSetIterable iter X.env x = pure x := by intro _; rfl) : PS X (.For tg iter body [] pos) (yS X.kx B (mFor mi b mb)) := ps_imp (ps_for hp hc hi hg hb hs) fun N σ H ⟨F, ρ, ok, q⟩ => by
  refine ⟨F, ρ, ok, R.all_imp (fun ds z => ?_) (fun x z => exc_ok' ok z) (R.all_bx.mp q)⟩
  intro F0 H0 J e0 wk
  refine ⟨fun i m σ1 H1 => ∃ F1 ρ1, Same F0 F1 ∧ Ok X.kx B F1 H1 σ1 ρ1 ∧ i + m = ds.length ∧ (fLoop (turnM b mb) (ds.drop i) ρ1).all (OutOk X.kx B F1 N) (fun _ => False),
    ⟨ds.length, F0, ρ, Same.refl F0, ok.step e0, Nat.zero_add _, outs_mono e0.ff z⟩, fun i m σ1 H1 hw => ?_⟩
  obtain ⟨F1, ρ1, s1, ok1, em, q1⟩ := hw
  by_cases hi : i < ds.length
  · refine .inr ⟨wk.go F1 H1 i s1 ok1.fh hi, fun σ2 H2 => ∃ F2 ρ2, Same F0 F2 ∧ Ok X.kx B F2 H2 σ2 ρ2 ∧ (fLoop (turnM b mb) (ds.drop (i + 1)) ρ2).all (OutOk X.kx B F2 N) (fun _ => False), fun σ2 H2 hn => ?_, fun x H2 hy => ?_⟩
    · obtain ⟨F2, ρ2, s2, ok2, q2⟩ := hn
      exact ⟨m - 1, by omega, F2, ρ2, s2, ok2, by omega, q2⟩
    · obtain ⟨F2, e2, rp⟩ := wk.yld F1 H1 i x H2 ds[i] s1 ok1.fh ok1.dk (List.getElem?_eq_getElem hi) hy
      have ok2 := ok1.step e2
      rw [List.drop_eq_getElem_cons hi] at q1
      unfold fLoop at q1
      have q1 := R.all_bind.mp q1
      unfold turnM at q1
      cases hbd : b ds[i] ρ1 with
      | none =>
        rw [hbd] at q1
        exact q1.elim
      | some ρ2 =>
        rw [hbd] at q1
        refine ⟨F2, ρ1, ds[i], ρ2, ok2, rp, hbd, fun σ3 ok3 _ => ?_⟩
        have s2 : Same F0 F2 := s1.trans e2.ff
        refine ⟨F2, ρ2, ok3, R.all_imp (fun o z2 => ?_) (fun _ z => z) q1⟩
        cases o with
        | next ρ3 => exact fun F3 H3 σ4 s3 ok4 => ⟨F3, ρ3, s2.trans s3, ok4, outs_mono (e2.ff.trans s3) z2⟩
        | cont ρ3 => exact fun F3 H3 σ4 s3 ok4 => ⟨F3, ρ3, s2.trans s3, ok4, outs_mono (e2.ff.trans s3) z2⟩
        | brk ρ3 => exact fun F3 H3 σ4 s3 ok4 => z2 F3 H3 σ4 (e2.ff.trans s3) ok4
        | ret d => exact z2
        | exc x ρ3 => exact fun F3 H3 σ4 c o s3 ok4 => z2 F3 H3 σ4 c o (e2.ff.trans s3) ok4
  · refine .inl ⟨?_, ?_⟩
    · have ei : i = ds.length := by omega
      subst ei
      exact wk.stop F1 H1 s1 ok1.fh
    · rw [List.drop_eq_nil_of_le (by omega)] at q1
      exact q1 F1 H1 σ1 (Same.refl F1) ok1
end
end Y
/-! # Y5 -/
set_option Elab.async false
set_option linter.all false
set_option maxRecDepth 100000
set_option maxHeartbeats 4000000
namespace Y
open PySem PySem.Spec L2

/-! ### while -/
/-- at most so many turns -/
def wIter (t : Rho → R Bool) (b : Rho → R Out) : Nat → Rho → R Out
  | 0, _ => .stuck
  | n + 1, ρ => lift ρ (t ρ) fun c => if c = true then (b ρ).bind fun o => match o with
      | .next ρ' => wIter t b n ρ'
      | .cont ρ' => wIter t b n ρ'
      | .brk ρ' => .ok (.next ρ')
      | o => .ok o
    else .ok (.next ρ)
open Classical in
noncomputable def mWhile (t : Rho → R Bool) (b : Rho → R Out) : Rho → R Out := fun ρ => if h : ∃ n, (wIter t b n ρ).good then wIter t b h.choose ρ else .stuck
section
variable {X : Cx} {B : Bx} {c : Expr} {body : List Stmt} {t : Rho → R Bool} {mb : Rho → R Out} {pos : Pos}
theorem cs_while (hp : PassesOwn (model X.prog X.w) X.A X.env X.xe) (hc : PT X c (yT X.kx B t)) (hb : PSs X body (yS X.kx B mb)) : PS X (.While c body [] pos) (yS X.kx B (mWhile t mb)) := ps_imp (ps_while hp hc hb) fun N σ H ⟨F, ρ, ok, q⟩ => by
  unfold mWhile at q
  split at q
  · rename_i h
    obtain ⟨n, hn⟩ : ∃ n, n = h.choose := ⟨_, rfl⟩
    rw [← hn] at q
    refine ⟨fun m σ1 H1 => ∃ F1 ρ1, Ok X.kx B F1 H1 σ1 ρ1 ∧ (wIter t mb m ρ1).all (OutOk X.kx B F1 N) (fun _ => False), ⟨n, F, ρ, ok, q⟩, fun m σ1 H1 hw => ?_⟩
    obtain ⟨F1, ρ1, ok1, q1⟩ := hw
    cases m with
    | zero => exact q1.elim
    | succ m =>
      unfold wIter at q1
      refine sT ok1 q1 fun b F2 H2 e2 q2 => ?_
      cases b with
      | false =>
        exact q2 F2 H2 σ1 (Same.refl F2) (ok1.step e2)
      | true =>
        refine ⟨fun σ3 H3 => ∃ F3 ρ3, Ok X.kx B F3 H3 σ3 ρ3 ∧ (wIter t mb m ρ3).all (OutOk X.kx B F3 N) (fun _ => False), fun σ3 H3 hn3 => ⟨m, Nat.lt_succ_self m, hn3⟩, F2, ρ1, ok1.step e2, R.all_imp (fun o z2 => ?_) (fun _ z => z) (R.all_bind.mp q2)⟩
        cases o with
        | next ρ3 => exact fun F3 H3 σ4 s3 ok4 => ⟨F3, ρ3, ok4, outs_mono s3 z2⟩
        | cont ρ3 => exact fun F3 H3 σ4 s3 ok4 => ⟨F3, ρ3, ok4, outs_mono s3 z2⟩
        | brk ρ3 => exact z2
        | ret d => exact z2
        | exc x ρ3 => exact z2
  · exact q.elim
end
/-- a run of a while in which nothing is drawn -/
inductive wRun (t : Rho → R Bool) (b : Rho → R Out) : Rho → Out → Prop
  | stop {ρ : Rho} : t ρ = .ok false → wRun t b ρ (.next ρ)
  | next {ρ ρ' : Rho} {o : Out} : t ρ = .ok true → b ρ = .ok (.next ρ') → wRun t b ρ' o → wRun t b ρ o
  | cont {ρ ρ' : Rho} {o : Out} : t ρ = .ok true → b ρ = .ok (.cont ρ') → wRun t b ρ' o → wRun t b ρ o
  | brk {ρ ρ' : Rho} : t ρ = .ok true → b ρ = .ok (.brk ρ') → wRun t b ρ (.next ρ')
  | ret {ρ : Rho} {d : D} : t ρ = .ok true → b ρ = .ok (.ret d) → wRun t b ρ (.ret d)
  | exc {ρ ρ' : Rho} {x : D} : t ρ = .ok true → b ρ = .ok (.exc x ρ') → wRun t b ρ (.exc x ρ')
theorem wRun.some {t : Rho → R Bool} {b : Rho → R Out} {ρ : Rho} {o : Out} (h : wRun t b ρ o) : ∃ n, wIter t b n ρ = .ok o := by
  induction h with
  | stop h1 => exact ⟨1, by rw [wIter, h1]; rfl⟩
  | next h1 h2 _ ih => obtain ⟨n, e⟩ := ih; exact ⟨n + 1, by rw [wIter, h1, lift_ok, if_pos rfl, h2]; exact e⟩
  | cont h1 h2 _ ih => obtain ⟨n, e⟩ := ih; exact ⟨n + 1, by rw [wIter, h1, lift_ok, if_pos rfl, h2]; exact e⟩
  | brk h1 h2 => exact ⟨1, by rw [wIter, h1, lift_ok, if_pos rfl, h2]; rfl⟩
  | ret h1 h2 => exact ⟨1, by rw [wIter, h1, lift_ok, if_pos rfl, h2]; rfl⟩
  | exc h1 h2 => exact ⟨1, by rw [wIter, h1, lift_ok, if_pos rfl, h2]; rfl⟩
theorem wRun.only {t : Rho → R Bool} {b : Rho → R Out} {ρ : Rho} {o : Out} (h : wRun t b ρ o) : ∀ n, (wIter t b n ρ).good → wIter t b n ρ = .ok o := by
  induction h with
  | stop h1 =>
    intro n g
    cases n with
    | zero => exact g.elim
    | succ n => rw [wIter, h1]; rfl
  | next h1 h2 _ ih =>
    intro n g
    cases n with
    | zero => exact g.elim
    | succ n =>
      rw [wIter, h1, lift_ok, if_pos rfl, h2] at g ⊢
      exact ih n g
  | cont h1 h2 _ ih =>
    intro n g
    cases n with
    | zero => exact g.elim
    | succ n =>
      rw [wIter, h1, lift_ok, if_pos rfl, h2] at g ⊢
      exact ih n g
  | brk h1 h2 =>
    intro n g
    cases n with
    | zero => exact g.elim
    | succ n => rw [wIter, h1, lift_ok, if_pos rfl, h2]; rfl
  | ret h1 h2 =>
    intro n g
    cases n with
    | zero => exact g.elim
    | succ n => rw [wIter, h1, lift_ok, if_pos rfl, h2]; rfl
  | exc h1 h2 =>
    intro n g
    cases n with
    | zero => exact g.elim
    | succ n => rw [wIter, h1, lift_ok, if_pos rfl, h2]; rfl
theorem mWhile_run {t : Rho → R Bool} {b : Rho → R Out} {ρ : Rho} {o : Out} (h : wRun t b ρ o) : mWhile t b ρ = .ok o := by
  obtain ⟨n, e⟩ := h.some
  have g : (wIter t b n ρ).good := by rw [e]; trivial
  have hx : ∃ n, (wIter t b n ρ).good := ⟨n, g⟩
  unfold mWhile
  rw [dif_pos hx]
  exact h.only _ hx.choose_spec

/-! ### comprehensions -/
/-- nothing may be raised -/
def R.nb {α β : Type} (t : R α) (f : α → R β) : R β := t.bx (fun _ => .stuck) f
@[simp] theorem R.nb_ok {α β : Type} (a : α) (f : α → R β) : (R.ok a).nb f = f a := rfl
@[simp] theorem R.nb_draw {α β : Type} (b : Int) (k : Int → R α) (f : α → R β) : (R.draw b k).nb f = .draw b fun r => (k r).nb f := rfl
theorem R.all_nb {α β : Type} {P : β → Prop} {E : D → Prop} {f : α → R β} {t : R α} : (t.nb f).all P E ↔ t.all (fun a => (f a).all P E) (fun _ => False) := R.all_bx
def wipeR (ρ : Rho) : List Nat → Rho
  | [] => ρ
  | v :: vs => (wipeR ρ vs).set v .no
def cLoop (b : Bnd) (t : Rho → R Bool) (e : Rho → R D) (ρ : Rho) : List D → R (List D)
  | [] => .ok []
  | x :: xs => match b x ρ with
    | some ρ1 => (t ρ1).nb fun c => if c = true then (e ρ1).nb fun d => (cLoop b t e ρ xs).bind fun ds => .ok (d :: ds) else cLoop b t e ρ xs
    | none => .stuck
def mComp (own : List Nat) (mi : Rho → R (List D)) (b : Bnd) (t : Rho → R Bool) (e : Rho → R D) : Rho → R (List D) := fun ρ => (mi ρ).bind fun xs => R.grd (xs.length ≤ 16777216) (cLoop b t e (wipeR ρ own) xs)
def mYes : Rho → R Bool := fun _ => .ok true
section
variable {X : Cx} {B : Bx} {F H : Hp} {σ : L2.St} {ρ : Rho}
theorem Ok.none (k : Ok X.kx B F H σ ρ) (i : Nat) : Ok X.kx B F H (σ.set i Option.none) (ρ.set i .no) := by
  have k' := k.no i
  refine ⟨k'.ext, k'.df, k'.dk0, by rw [List.length_set]; exact k'.len, fun j s e => ?_, fun j l ds es a ne e1 e2 e3 e4 => ?_⟩
  · by_cases h : i = j
    · subst h
      rw [List.getElem?_set] at e
      simp only [if_true] at e
      split at e
      · cases e; trivial
      · cases e
    · rw [List.getElem?_set_ne h]
      exact k'.sl j s e
  · have h1 : i ≠ j := fun z => by
      subst z
      rw [List.getElem?_set] at e1
      simp only [if_true] at e1
      split at e1 <;> cases e1
    have h2 : i ≠ l := fun z => by
      subst z
      rw [List.getElem?_set] at e2
      simp only [if_true] at e2
      split at e2 <;> cases e2
    rw [List.getElem?_set_ne h1] at e3
    rw [List.getElem?_set_ne h2] at e4
    exact k'.inj j l ds es a ne e1 e2 e3 e4
theorem Ok.wipe (k : Ok X.kx B F H σ ρ) : ∀ vs : List Nat, Ok X.kx B F H (L2.wipe σ vs) (wipeR ρ vs)
  | [] => k
  | v :: vs => (k.wipe vs).none v
/-- no exception leaves a block -/
abbrev Bx.blk (B : Bx) : Bx := { B with W := fun _ _ _ _ => False }
theorem Ok.blk (k : Ok X.kx B F H σ ρ) : Ok X.kx B.blk F H σ ρ := ⟨k.ext, k.df, k.dk0, k.len, k.sl, k.inj⟩
theorem Ok.unblk (k : Ok X.kx B.blk F H σ ρ) : Ok X.kx B F H σ ρ := ⟨k.ext, k.df, k.dk0, k.len, k.sl, k.inj⟩
variable {elt tg iter : Expr} {ifs : List Expr} {scope : Scope} {own : List (Str × Nat)} {pos : Pos} {mi : Rho → R (List D)} {b : Bnd} {mt : Rho → R Bool} {me : Rho → R D}
theorem wipe_sub {ws : List Nat} : ∀ {us : List Nat}, (∀ u ∈ us, u ∈ ws) → L2.wipe (L2.wipe σ us) ws = L2.wipe σ ws
  | [], _ => rfl
  | u :: us, h => by
    rw [show L2.wipe σ (u :: us) = (L2.wipe σ us).set u Option.none from rfl, wipe_in (h u (List.mem_cons_self ..))]
    exact wipe_sub fun x hx => h x (List.mem_cons_of_mem _ hx)
/-- something else of one's own is laid or changed -/
theorem Ext.out {dl : DL} {F H F' H' : Hp} (e : Ext dl F H F' H') {A : Addr} (h1 : F' A = Option.none) (h2 : H A = Option.none) (h3 : ¬ Dl dl A) (o : HO) : Ext dl F H F' (upd H' A o) where
  ff := e.ff
  fh := fun b x w => by
    rw [upd_ne (fun z => by subst z; rw [h1] at w; cases w)]
    exact e.fh b x w
  hh := fun b x w n => by
    rw [upd_ne (fun z => by subst z; rw [h2] at w; cases w)]
    exact e.hh b x w n
  fr := e.fr
  dk := e.dk.upd h3
def Away (σ : L2.St) (ρ : Rho) (A : Addr) : Prop := (∀ (i : Nat) (ds : List D), ρ[i]? = some (.ow ds) → σ[i]? ≠ some (some (.ref A))) ∧ (∀ (i : Nat) (c : Nat) (ds : List D), ρ[i]? = some (.me c ds) → σ[i]? ≠ some (some (.ref A))) ∧ ∀ (i : Nat) (kvs : List (Key × D)), ρ[i]? = some (.dc kvs) → σ[i]? ≠ some (some (.ref A))
theorem Ok.away (k : Ok X.kx B F H σ ρ) {A : Addr} (h : H A = Option.none) : Away σ ρ A := by
  refine ⟨fun i ds e z => ?_, fun i c ds e z => ?_, fun i kvs e z => ?_⟩
  · obtain ⟨a, vs, ea, _, q, _⟩ := k.sl i _ e
    rw [z] at ea
    cases ea
    rw [h] at q
    cases q
  · obtain ⟨a, C, dx, fs, ea, _, _, q, _⟩ := k.sl i _ e
    rw [z] at ea
    cases ea
    rw [h] at q
    cases q
  · obtain ⟨a, vs, ea, _, q, _⟩ := k.sl i _ e
    rw [z] at ea
    cases ea
    rw [h] at q
    cases q
theorem Ok.out (k : Ok X.kx B F H σ ρ) {A : Addr} (aw : Away σ ρ A) (h1 : F A = Option.none) (h2 : B.H A = Option.none) (h3 : ¬ Dl B.dl A) (o : HO) : Ok X.kx B F (upd H A o) σ ρ :=
  ⟨k.ext.out h1 h2 h3 o, k.df, k.dk0, k.len, fun i s e => by
    cases s with
    | no => trivial
    | ex n ds => exact k.sl i _ e
    | sh d => exact k.sl i _ e
    | ow ds =>
      obtain ⟨a, vs, ea, p, q, r⟩ := k.sl i _ e
      refine ⟨a, vs, ea, p, ?_, r⟩
      rw [upd_ne (fun z => by subst z; exact aw.1 i ds e ea)]
      exact q
    | me c ds =>
      obtain ⟨a, C, dx, fs, ea, p, g, q, ek, r⟩ := k.sl i _ e
      refine ⟨a, C, dx, fs, ea, p, g, ?_, ek, r⟩
      rw [upd_ne (fun z => by subst z; exact aw.2.1 i c ds e ea)]
      exact q
    | dc kvs =>
      obtain ⟨a, vs, ea, p, q, ek, r⟩ := k.sl i _ e
      refine ⟨a, vs, ea, p, ?_, ek, r⟩
      rw [upd_ne (fun z => by subst z; exact aw.2.2 i kvs e ea)]
      exact q, k.inj⟩
theorem Ext.none_of {dl : DL} {F H F' H' : Hp} (e : Ext dl F H F' H') {A : Addr} {o : HO} (h1 : F A = Option.none) (h2 : H A = some o) : F' A = Option.none := by
  cases z : F' A with
  | none => rfl
  | some u =>
    exfalso
    rcases e.fr A u z with y | y
    · rw [h1] at y; cases y
    · rw [h2] at y; cases y
/-- what a comprehension's turns ask, by data -/
theorem lc_read {ws : List Nat} {Q : VK} (h : yO X.kx B (mComp ws mi b mt me) σ H Q) : tLc (yI X.kx B mi) (yG X.kx B.blk ws b) (yT X.kx B.blk mt) (yE X.kx B.blk me) ws σ H Q := by
  obtain ⟨F, ρ, ok, q⟩ := h
  refine ⟨F, ρ, ok, R.all_imp (fun xs z => ?_) (fun _ z => z) (R.all_bind.mp q)⟩
  obtain ⟨hl, z⟩ := R.all_grd.mp z
  intro F0 H0 J e0 wk A hA
  have ok0 := ok.step e0
  have hF0 : F0 A = Option.none := same_none ok0.fh hA
  have hHA : H A = Option.none := e0.new_old hA
  have hBA : B.H A = Option.none := ok.ext.new_old hHA
  have hd : ¬ Dl B.dl A := ok0.dk.nof hA
  have aw : Away σ ρ A := ok0.away hA
  -- what is left to be made, with what has been made
  refine ⟨fun i m H1 => ∃ F1 acc ds, Ext B.dl F H F1 H1 ∧ Same F0 F1 ∧ Ok X.kx B F1 H1 σ ρ ∧ F1 A = Option.none ∧ H1 A = some (.lst acc) ∧ RpLX X.kx B F1 ds acc ∧ ds.length ≤ i ∧ i + m = xs.length ∧
      (cLoop b mt me (wipeR ρ ws) (xs.drop i)).all (fun es => PO1 X.kx B F H Q (ds ++ es)) (XpE X.kx B F H σ),
    ⟨xs.length, F0, [], [], e0.out hF0 hHA hd _, Same.refl F0, ok0.out aw hF0 hBA hd _, hF0, upd_same, RpL.nil, Nat.le_refl _, Nat.zero_add _, z⟩, ?_⟩
  rintro i m H1 ⟨F1, acc, ds, e1, s1, ok1, n1, hacc, rl, li, em, q1⟩
  by_cases hi : i < xs.length
  · refine .inr ⟨wk.go F1 H1 i s1 ok1.fh hi, fun H2 => ∃ F1 acc ds, Ext B.dl F H F1 H2 ∧ Same F0 F1 ∧ Ok X.kx B F1 H2 σ ρ ∧ F1 A = Option.none ∧ H2 A = some (.lst acc) ∧ RpLX X.kx B F1 ds acc ∧ ds.length ≤ i + 1 ∧
      (cLoop b mt me (wipeR ρ ws) (xs.drop (i + 1))).all (fun es => PO1 X.kx B F H Q (ds ++ es)) (XpE X.kx B F H σ), ?_, fun x H2 hy => ?_⟩
    · rintro H2 ⟨F2, acc2, ds2, g1, g2, g3, g4, g5, g6, g7, g8⟩
      exact ⟨m - 1, by omega, F2, acc2, ds2, g1, g2, g3, g4, g5, g6, g7, by omega, g8⟩
    · obtain ⟨F2, e2, rp⟩ := wk.yld F1 H1 i x H2 xs[i] s1 ok1.fh ok1.dk (List.getElem?_eq_getElem hi) hy
      rw [List.drop_eq_getElem_cons hi] at q1
      unfold cLoop at q1
      cases hbd : b xs[i] (wipeR ρ ws) with
      | none =>
        rw [hbd] at q1
        exact q1.elim
      | some ρ1 =>
        rw [hbd] at q1
        have ok2 := ok1.step e2
        refine ⟨F2, wipeR ρ ws, xs[i], ρ1, (ok2.wipe ws).blk, rp, hbd, fun σ2 ok3 hw => ⟨hw.trans (wipe_sub fun _ z => z), F2, ρ1, ok3, R.all_imp (fun c z2 => ?_) (fun _ z => z.elim) (R.all_nb.mp q1)⟩⟩
        intro F3 H3 e3
        have e13 := e2.trans e3
        cases c with
        | false =>
          exact ⟨F3, acc, ds, e1.trans e13, s1.trans e13.ff, ok1.step e13, e13.none_of n1 hacc, e13.hh A _ hacc hd, RpL.mono e13.ff _ _ rl, by omega, z2⟩
        | true =>
          refine ⟨F3, ρ1, ok3.step e3, R.all_imp (fun d z3 => ?_) (fun _ z => z.elim) (R.all_nb.mp z2)⟩
          intro F4 H4 y e4 ry
          have e14 := e13.trans e4
          have n4 := e14.none_of n1 hacc
          refine ⟨acc, e14.hh A _ hacc hd, ?_, F4, acc ++ [y], ds ++ [d], (e1.trans e14).out n4 hHA hd _, s1.trans e14.ff, (ok1.step e14).out aw n4 hBA hd _, n4, upd_same, RpL.append (RpL.mono e14.ff _ _ rl) (RpL.cons ry RpL.nil), ?_, ?_⟩
          · rw [szl, RpL.length rl]
            omega
          · rw [List.length_append]
            show ds.length + 1 ≤ i + 1
            omega
          · refine R.all_imp (fun es w => ?_) (fun _ w => w) (R.all_bind.mp z3)
            rw [List.append_assoc]
            exact w
  · refine .inl ⟨?_, ?_⟩
    · have ei : i = xs.length := by omega
      subst ei
      exact wk.stop F1 H1 s1 ok1.fh
    · rw [List.drop_eq_nil_of_le (by omega)] at q1
      have q2 : PO1 X.kx B F H Q (ds ++ []) := q1
      rw [List.append_nil] at q2
      exact q2 F1 H1 A acc e1 n1 hHA hacc rl
abbrev Cx.bk (X : Cx) (s : Shared) (H : Hp) (scope : Scope) (C : Addr) (cl : List (Str × Addr)) (fp : List Addr) : Cx := X.blk s H scope (compEnvC scope cl C X.env) fp
theorem co_lc (hc : X.calm = true) (hN : X.N.Nodup) (own : List (Str × Nat)) (hi : PI X tg iter (yI X.kx B mi)) (ok : BlkOk X.N X.env.scope scope own)
    (hg : ∀ (s : Shared) (H : Hp) (C : Addr) (cl : List (Str × Addr)) (fp : List Addr), PG (X.blk s H scope (compEnvC scope cl C X.env) fp) tg (yG X.kx B.blk (own.map (·.2)) b))
    (ht : ∀ (s : Shared) (H : Hp) (C : Addr) (cl : List (Str × Addr)) (fp : List Addr), PTs (X.blk s H scope (compEnvC scope cl C X.env) fp) ifs (yT X.kx B.blk mt))
    (he : ∀ (s : Shared) (H : Hp) (C : Addr) (cl : List (Str × Addr)) (fp : List Addr), PE (X.blk s H scope (compEnvC scope cl C X.env) fp) elt (yE X.kx B.blk me)) (hs : ∀ x, foldedSetIterable iter X.env x = pure x := by intro _; rfl) :
    PE X (.ListComp elt [⟨tg, iter, ifs, 0⟩] scope pos) (yO X.kx B (mComp (own.map (·.2)) mi b mt me)) := by
  have h := pe_lc (wi := yI X.kx B mi) (g := yG X.kx B.blk (own.map fun p : Str × Nat => p.2) b) (tt := yT X.kx B.blk mt) (te := yE X.kx B.blk me) (pos := pos) hc hN hi ok hg ht he hs
  exact pe_imp h fun σ H Q q => lc_read q
/-- y = [..] on one line -/
theorem cs_lc (i : Nat) {y : Str} {py spos : Pos} (hc : X.calm = true) (hN : X.N.Nodup) (own : List (Str × Nat)) (hi : PI X tg iter (yI X.kx B mi)) (ok : BlkOk X.N X.env.scope scope own)
    (hg : ∀ (s : Shared) (H : Hp) (C : Addr) (cl : List (Str × Addr)) (fp : List Addr), PG (X.blk s H scope (compEnvC scope cl C X.env) fp) tg (yG X.kx B.blk (own.map (·.2)) b))
    (ht : ∀ (s : Shared) (H : Hp) (C : Addr) (cl : List (Str × Addr)) (fp : List Addr), PTs (X.blk s H scope (compEnvC scope cl C X.env) fp) ifs (yT X.kx B.blk mt))
    (he : ∀ (s : Shared) (H : Hp) (C : Addr) (cl : List (Str × Addr)) (fp : List Addr), PE (X.blk s H scope (compEnvC scope cl C X.env) fp) elt (yE X.kx B.blk me))
    (hy : X.N[i]? = some y := by rfl) (hyl : X.env.scope.names.lookup y = some .local := by rfl) (hsw : swapsWith (.ListComp elt [⟨tg, iter, ifs, 0⟩] scope pos) (some (.Name y py)) spos.line X.env = pure true := by exact sw_true rfl rfl rfl (by decide +kernel)) (hs : ∀ x, foldedSetIterable iter X.env x = pure x := by intro _; rfl) :
    PS X (.Assign [.Name y py] (.ListComp elt [⟨tg, iter, ifs, 0⟩] scope pos) spos) (yS X.kx B (mOwn i (mComp (own.map (·.2)) mi b mt me))) := by
  have h := ps_setLc (i := i) (wi := yI X.kx B mi) (g := yG X.kx B.blk (own.map fun p : Str × Nat => p.2) b) (tt := yT X.kx B.blk mt) (te := yE X.kx B.blk me) (pos := pos) (py := py) hc hN hy hyl hsw hi ok hg ht he hs
  exact ps_imp h (own_read fun σ H Q q => lc_read q)
end
end Y
/-! # Y6 -/
set_option Elab.async false
set_option linter.all false
set_option maxRecDepth 100000
set_option maxHeartbeats 4000000
namespace Y
open PySem PySem.Spec L2
open PyProof.Rows hiding St

/-! ### room to run in: also no repr is under way -/
structure RG (k : Nat) (A : Around) : Prop where
  room : Room k A
  grd : A.guards = some []
theorem RG.mono {j k : Nat} {A : Around} (r : RG k A) (h : j ≤ k) : RG j A := ⟨r.room.mono h, r.grd⟩
theorem RG.deeper {k : Nat} {A : Around} (r : RG (k + 1) A) (env : Env) : RG k (A.deeper env) := ⟨r.room.deeper env, r.grd⟩
/-- a def's promise, kept wherever there is such room -/
structure FnG (P : Program) (w : World) (K : PySem.W.Frag) (mg : Str → Option Value) (base : Heap) (k : Nat) (f : Addr) (fd : FuncData) (ps : List Str) (sp : Sp) : Prop where
  len : ∀ vs H Q E, sp vs H Q E → vs.length = ps.length
  run : ∀ (A : Around) (outer : List Env) (s : Shared) (H : Hp) (args : Args) (us : List Value) (vs : List V) (Q : VK) (E : XK), RG k A → Env0 P w K mg base A outer s H → BindsTo s fd args (ps.zip us) → Vals vs us → sp vs H Q E →
    codeAny (model P w) A (.call (.ref f) args) (CR (L2.CX P w) outer P w H s Q E) s
theorem FnG.of {P : Program} {w : World} {K : PySem.W.Frag} {mg : Str → Option Value} {base : Heap} {k : Nat} {f : Addr} {fd : FuncData} {ps : List Str} {sp : Sp} (F : FnOk P w K mg base (L2.CX P w) k f fd ps sp) : FnG P w K mg base k f fd ps sp :=
  ⟨F.len, fun A outer s H args us vs Q E r => F.run A outer s H args us vs Q E r.room⟩
abbrev cxF (P : Program) (w : World) (K : PySem.W.Frag) (mg : Str → Option Value) (base : Heap) (N : List Str) (qual : Str) (scope : Scope) (f : Addr) (cd : Value) (A : Around) (outer : List Env) (s : Shared) (H : Hp) (E : XK) : Cx := cxOf (L2.CX P w) P w K mg base N qual scope f cd A outer s H E
section
variable {P : Program} {w : World} {K : PySem.W.Frag} {mg : Str → Option Value} {base : Heap}
/-- a def by its body -/
theorem fnG_of {x qual : Str} {st : Stmt} {f : Addr} {fd : FuncData} {N ps : List Str} {k : Nat} {sp : Sp} (F : Fun K x qual st f fd) (S : FnScope N ps (defScope st)) (len : ∀ vs H Q E, sp vs H Q E → vs.length = ps.length)
    (body : ∀ (cdv : Value) (A : Around) (outer : List Env) (s : Shared) (H : Hp) (vs : List V) (Q : VK) (E : XK), RG k (A.deeper (envOfC qual (defScope st) s.heap.objs.size f cdv)) → sp vs H Q E →
      ∃ t, PSs (cxF P w K mg base N qual (defScope st) f cdv A outer s H E) (defBody st) t ∧ t { nx := fun _ H' => Q .non H', rt := Q } (start N vs) H) : FnG P w K mg base (k + 1) f fd ps sp := by
  obtain ⟨oc, od, kV, doc, pm, an, cdv, ct, osl, rfl, lk, hcd⟩ := F.ex
  refine ⟨len, fun A outer s H args us vs Q E rg e0 bd rv hs => ?_⟩
  have el := len _ _ _ _ hs
  have inK : K.In s.heap := e0.mod.kin.keeps fun b o z => (e0.bs b o z).1
  have noL : s.heap.NoLimit := e0.mod.nolimit.keeps fun b o z => (e0.bs b o z).1
  have kinds : ∀ y ∈ ps.zip us, (defScope st).names.lookup y.1 = some .local ∨ ((defScope st).names.lookup y.1 = some .cell ∧ ((cellsFrom (s.heap.objs.size + 1) (defScope st).names []).lookup y.1).isSome = true) := by
    rintro ⟨n, v⟩ hy
    rcases S.par n (List.of_mem_zip hy).1 with z | z
    · exact .inl z
    · exact .inr ⟨z, PySem.W.cellsFrom_some _ _ _ (.inl z)⟩
  refine codeAny_call_function rg.room.depth (inK _ _ lk) rfl S.co S.gen rfl (PySem.W.codeRec_of inK hcd) (bd _ _ _ _ ?_)
  refine wpAny_newFunctionEnv_cells S.kind kinds fun env ee s1 xc => ?_
  subst ee
  refine ⟨noL.keeps xc.toInCall.keep, codeAny_func ?_⟩
  obtain ⟨t, pt, q⟩ := body cdv A outer s H vs Q E (rg.deeper _) hs
  have I0 : L2.Inv (cxF P w K mg base N qual (defScope st) f cdv A outer s H E) [] (start N vs) H s1 := inv_start S rg.room.hd e0 el rv xc
  have done : ∀ {s' : Shared} {σ' : L2.St} {H' : Hp} {v : V} {u : Value}, L2.Inv (cxF P w K mg base N qual (defScope st) f cdv A outer s H E) [] σ' H' s' → RelV v u → Q v H' → CE outer P w H s Q u s' :=
    fun {s' σ' H' v u} J rr qq => ⟨v, H', J.os, J.bare, J.base, J.hok, rr, qq⟩
  refine wpAny_mono (pt.run [] s1 (start N vs) H _ I0 q) (fun fl s' z => ?_) fun _ _ z => z
  cases fl with
  | next =>
    obtain ⟨σ', H', J, qq⟩ := z
    exact done (v := V.non) (u := Value.none) J rfl qq
  | ret u =>
    obtain ⟨v, σ', H', J, rr, qq⟩ := z
    exact done J rr qq
  | brk =>
    obtain ⟨_, _, _, no⟩ := z
    exact False.elim no
  | cont =>
    obtain ⟨_, _, _, no⟩ := z
    exact False.elim no
end
section
variable {X : Cx} {k : Nat} {f : Addr} {fd : FuncData} {ps : List Str} {sp : Sp} {E : L2.St → XK} {x : Str} {p pos : Pos} {e : Expr} {es : List Expr} {t : TA}
/-- the callee runs; what it lets out is taken at these slots -/
theorem runG {pins : List (Addr × Obj)} {σ : L2.St} {H : Hp} {s : Shared} {Q : VK} {us : List Value} {vs : List V} (F : FnG X.prog X.w X.K X.mg X.base k f fd ps sp) (rg : RG k X.A) (hb : Binds X.K fd ps []) (hx : PassesAt (L2.CX X.prog X.w) X σ (E σ))
    (I : L2.Inv X pins σ H s) (r : Vals vs us) (h : sp vs H Q (E σ)) : wpAny (model X.prog X.w) X.A (call (.ref f) us) (EP X pins σ Q) X.xe s := by
  have el : us.length = ps.length := by
    rw [← r.length]
    exact F.len _ _ _ _ h
  have bb := hb s us I.kIn (by rw [List.append_nil]; exact el)
  rw [List.append_nil] at bb
  refine wpAny_call (codeAny_mono (F.run X.A X.stack s H ⟨us, []⟩ us vs Q (E σ) rg I.env0 bb r h) fun z s' hz => ?_)
  rcases z with z | z
  · exact hx pins H s z s' I hz
  · cases z with
    | ret u => exact I.after hz
    | next => exact False.elim hz
    | brk => exact False.elim hz
    | cont => exact False.elim hz
theorem pe_callG (F : FnG X.prog X.w X.K X.mg X.base k f fd ps sp) (rg : RG k X.A) (hg : Gl X x) (hm : X.mg x = some (.ref f)) (hk : PySem.W.keepIn X.K (.ref f) = true) (hb : Binds X.K fd ps []) (hx : ∀ σ, PassesAt (L2.CX X.prog X.w) X σ (E σ))
    (ha : PA X (e :: es) t) (hdb : (x == ("__debug__" : Str)) = false) (he : starEach (e :: es) X.env = (false, eval e X.env) :: starEach es X.env) (hpl : (backTo pos (starEach es X.env)).any (·.1) = false) :
    PE X (.Call (.Name x p) (e :: es) [] pos) (tCallS sp E t) := ⟨fun pins s σ H Q I h => wpAny_Call_Name_kw (ld_glob I hg hm (PySem.W.callWith_K (h₀ := X.base) I.ok.mod.kin hk
  (thn (ha.run pos pins s σ H _ I h) fun us s1 ⟨vs, H1, I1, r, q⟩ => ⟨I1.kIn, runG F rg hb (hx σ) I1 r q⟩) he hpl) hdb)⟩
end

/-! ### the law's call -/
section
variable {P : Program} {w : World} {K : PySem.W.Frag} {mg mb : Str → Option Value} {k : Nat} {fa a : Addr} {fd : FuncData} {x : Str} {sp : Sp} {s1 : Shared} {vs : List Value} {ns : List Int}
/-- from an abstract heap in which at most the script is tracked -/
theorem lawG_at (KX : K.In s1.heap) (hns : s1.heap.Ns mainGlobals mg) (hb : s1.heap.Ns builtinsNs mb) (hbb : ∀ x : Str, x ≠ "__name__" → mb x = bootBuiltins x) (hlim : s1.heap.NoLimit) (hg : s1.gens = #[])
    (ha : s1.heap.get? a = some { cls := .type "list", data := .seq vs.toArray }) (hr : RG k callerA)
    (F : ∀ base : Heap, K.In base → base.Ns mainGlobals mg → FnG P w K mg base k fa fd [x] sp) (hbind : ∀ (s : Shared) (u : Value), BindsTo s fd ⟨[u], []⟩ [(x, u)])
    {H : Hp} (only : ∀ b, H b = none ∨ b = a ∧ ∃ o xs, H b = some (.frz o (.lst xs))) (hok : HOk P w H s1.heap) (hK : H a ≠ none → K.lookup a = none)
    (hsp : sp [.ref a] H (fun v _ => v = .bl true) fun _ _ _ => False) :
    codeAny (model P w) callerA (.call (.ref fa) ⟨[.ref a], []⟩) (fun r s' => r = .ok (.ret (.bool true)) ∧ OldK s1.heap s'.heap ∧ s'.os = s1.os ∧ AllBare s'.gens) s1 := by
  have hidden : ∀ {b : Addr} {o : Obj}, s1.heap.get? b = some o → H b = none → (hidT s1.heap H).get? b = some o := fun z n => hidT_get z n
  have nodict : ∀ {b : Addr} {o : Obj} {es : Array DictEntry} {ep : Nat}, s1.heap.get? b = some o → o.data = .dict es ep → H b = none := fun {b o es ep} z d => by
    rcases only b with q | ⟨rfl, _⟩
    · exact q
    · rw [ha] at z
      cases z
      cases (show Data.seq vs.toArray _ = Data.dict es ep from d)
  have ns_of : ∀ {b : Addr} {m : Str → Option Value}, s1.heap.Ns b m → (hidT s1.heap H).Ns b m := by
    rintro b m ⟨o, es, ep, z, d, r⟩
    exact ⟨o, es, ep, hidden z (nodict z d), d, r⟩
  have inK : K.In (hidT s1.heap H) := fun b o z => hidden (KX b o z) (by
    rcases only b with q | ⟨rfl, o', xs, q⟩
    · exact q
    · rw [hK (by rw [q]; exact fun y => nomatch y)] at z
      cases z)
  have md : Mod K mg (hidT s1.heap H) := by
    obtain ⟨mc, l1, l2⟩ := hlim
    exact ⟨inK, ns_of hns, ⟨mb, ns_of hb, hbb⟩, ⟨mc, ns_of l1, l2⟩⟩
  have e0 : Env0 P w K mg (hidT s1.heap H) callerA [] s1 H := ⟨rfl, md, fun b o z => of_hidT z, Nat.le_of_eq (hidT_size _ _), trivial, fun b z => absurd z List.not_mem_nil, hok, .of_eq hg⟩
  refine codeAny_mono ((F _ inK (ns_of hns)).run callerA [] s1 H ⟨[.ref a], []⟩ [.ref a] [.ref a] _ _ hr e0 (hbind s1 (.ref a)) (.cons rfl .nil) hsp) fun r s' z => ?_
  rcases r with er | fl
  · obtain ⟨_, _, _, _, _, _, _, _, _, _, _, _, no⟩ := z
    exact no.elim
  · cases fl with
    | next => exact False.elim z
    | brk => exact False.elim z
    | cont => exact False.elim z
    | ret u =>
      obtain ⟨v, H', os, bare, un, hok', ru, qv⟩ := z
      obtain rfl : v = .bl true := qv
      obtain rfl : u = Value.bool true := ru
      refine ⟨rfl, OldK.of_keep fun b o z => ?_, os, bare⟩
      rcases only b with q | ⟨rfl, o', xs, q⟩
      · exact un.keep b o z q List.not_mem_nil List.not_mem_nil
      · have y1 := (hok b _ q).1
        have y2 := (hok' b _ (un.frzs b o' _ q)).1
        rw [z] at y1
        cases y1
        exact y2
theorem lawG_call (KX : K.In s1.heap) (hns : s1.heap.Ns mainGlobals mg) (hb : s1.heap.Ns builtinsNs mb) (hbb : ∀ x : Str, x ≠ "__name__" → mb x = bootBuiltins x) (hlim : s1.heap.NoLimit) (hg : s1.gens = #[])
    (ha : s1.heap.get? a = some { cls := .type "list", data := .seq vs.toArray }) (hi : IntsAre vs ns) (hl : ns.length ≤ sizeLine) (hr : RG k callerA)
    (F : ∀ base : Heap, K.In base → base.Ns mainGlobals mg → FnG P w K mg base k fa fd [x] sp) (hbind : ∀ (s : Shared) (u : Value), BindsTo s fd ⟨[u], []⟩ [(x, u)])
    (hsp : ∀ H : Hp, SqL K H a (ns.map V.int) → sp [.ref a] H (fun v _ => v = .bl true) fun _ _ _ => False) :
    codeAny (model P w) callerA (.call (.ref fa) ⟨[.ref a], []⟩) (fun r s' => r = .ok (.ret (.bool true)) ∧ OldK s1.heap s'.heap ∧ s'.os = s1.os ∧ AllBare s'.gens) s1 := by
  have rv := vals_ints hi
  have ln := hi.length
  cases hk : K.lookup a with
  | some o =>
    have z := KX a o hk
    rw [ha] at z
    cases z
    have sq : SqL K (fun _ => none) a (ns.map V.int) := .inr ⟨_, vs.toArray, _, hk, rfl, rfl, rfl, by rw [List.size_toArray, ln]; exact hl, by simpa using rv⟩
    exact lawG_at KX hns hb hbb hlim hg ha hr F hbind (H := fun _ => none) (fun _ => .inl rfl) (fun b u z => nomatch (show (none : Option HO) = some u from z)) (fun z => absurd rfl z) (hsp _ sq)
  | none =>
    obtain ⟨H, eH⟩ : ∃ H : Hp, H = upd (fun _ => none) a (.frz { cls := .type "list", data := .seq vs.toArray } (.lst (ns.map V.int))) := ⟨_, rfl⟩
    have at_a : H a = some (.frz { cls := .type "list", data := .seq vs.toArray } (.lst (ns.map V.int))) := by rw [eH, upd_same]
    have off : ∀ b, b ≠ a → H b = none := fun b ne => by rw [eH, upd_ne ne]
    refine lawG_at KX hns hb hbb hlim hg ha hr F hbind (H := H) (fun b => ?_) (fun b u z => ?_) (fun _ => hk) (hsp H (.inl (.inr ⟨_, at_a⟩)))
    · by_cases e : b = a
      · subst e
        exact .inr ⟨rfl, _, _, at_a⟩
      · exact .inl (off b e)
    · by_cases e : b = a
      · subst e
        rw [at_a] at z
        cases z
        exact ⟨ha, by rw [List.length_map]; exact hl, vs, _, rv, ha⟩
      · rw [off b e] at z
        cases z
end
/-- the goal that k_head leaves, from the law's promise -/
theorem walkG {l : PySem.W.OpenLaw} {n k : Nat} {q : Program} {loose : List Str} {XP : (Str → Option Value) → Heap → Prop} {YP : World → Heap → Prop} {d : DefRec} {K : Params → PySem.W.Frag} {sp : World → Sp} {x : Str}
    (hn : l.most = some n) (hn2 : n ≤ sizeLine) (hdf : d.params.defaults = []) (hr : RG k callerA) (hY : ∀ (w : World) (h : Heap), YP w h → (K w.params).In h)
    (F : ∀ (w : World) (mg : Str → Option Value) (fa : Addr) (h : Heap), (K w.params).In h → h.Ns mainGlobals mg → mg d.name = some (.ref fa) →
      ∃ fd : FuncData, (∀ (s : Shared) (u : Value), BindsTo s fd ⟨[u], []⟩ [(x, u)]) ∧ ∀ base : Heap, (K w.params).In base → base.Ns mainGlobals mg → FnG l.prog w (K w.params) mg base k fa fd [x] (sp w))
    (hsp : ∀ (w : World) (H : Hp) (a : Addr) (ns : List Int), ns.length ≤ n → SqL (K w.params) H a (ns.map V.int) → sp w [.ref a] H (fun v _ => v = .bl true) fun _ _ _ => False) :
    PySem.W.WalkO q loose XP YP l.row.toRowW d [] (fun f vs => PySem.call f vs) := by
  refine Att.attach_call hn hdf fun w s₀ s₁ mg mb fa o pm cd doc a vs ns G Y ho hd hcd hmg hobj hints hlen hg => ?_
  obtain ⟨fd, bd, hF⟩ := F w mg fa _ (hY w _ Y) G.T.g hmg
  exact lawG_call (hY w _ Y) G.T.g G.T.b G.T.builtins G.T.nolimit hg hobj hints (Nat.le_trans hlen hn2) hr hF bd fun H hS => hsp w H a ns hlen hS

/-! ### defs -/
/-- a def's promise, by data: from any such arguments it does what m says -/
def spD (Z : Kx) (n : Nat) (m : List D → R D) : Sp := fun vs H Q E => ∃ dl F ds, ds.length = n ∧ Same F H ∧ DealOk dl H ∧ (∀ b, Dl dl b → F b = none) ∧ RpL Z.mg dl F ds vs ∧
  (m ds).all (fun d => ∀ F' H' v, Ext dl F H F' H' → Rp Z.mg dl F' d v → Q v H') (fun x => ∀ F' H' c o, Ext dl F H F' H' → Ex Z ⟨dl, F, H, fun _ _ _ _ => False, 0, none⟩ F' x c o → E c o H')
def endM : Out → R D
  | .next _ => .ok .non
  | .ret d => .ok d
  | .exc x _ => .exn x
  | _ => .stuck
/-- a body as a function of the arguments; N names, n of them parameters -/
def mFun (N n : Nat) (mb : Rho → R Out) : List D → R D := fun ds => (mb (ds.map Sl.sh ++ List.replicate (N - n) Sl.no)).nb endM
/-- a def of the text, callable by its name -/
def Cal (P : Program) (w : World) (K : PySem.W.Frag) (mg : Str → Option Value) (base : Heap) (k : Nat) (x : Str) (n : Nat) (m : List D → R D) : Prop :=
  ∃ f fd ps, FnG P w K mg base k f fd ps (spD ⟨K, mg⟩ n m) ∧ mg x = some (.ref f) ∧ PySem.W.keepIn K (.ref f) = true ∧ Binds K fd ps []
def mCall (n : Nat) (m : List D → R D) (ma : Rho → R (List D)) : Rho → R D := fun ρ => (ma ρ).bind fun ds => R.grd (ds.length = n) (m ds)
section
variable {X : Cx} {B : Bx} {k j n : Nat} {x : Str} {p pos : Pos} {e : Expr} {es : List Expr} {m : List D → R D} {ma : Rho → R (List D)}
theorem ce_call (G : Cal X.prog X.w X.K X.mg X.base j x n m) (hr : RG k X.A) (hj : j ≤ k) (tk : Takes X B.W) (ha : PA X (e :: es) (yA X.kx B ma)) (hg : Gl X x := by rfl) (hdb : (x == ("__debug__" : Str)) = false := by decide) (he : starEach (e :: es) X.env = (false, eval e X.env) :: starEach es X.env := by rfl) (hpl : (backTo pos (starEach es X.env)).any (·.1) = false := by rfl) :
    PE X (.Call (.Name x p) (e :: es) [] pos) (yE X.kx B (mCall n m ma)) := by
  obtain ⟨f, fd, ps, F, hm, hk, hb⟩ := G
  refine pe_imp (pe_callG F (hr.mono hj) hg hm hk hb (fun σ => passAt tk σ) ha hdb he hpl) fun σ H Q ⟨F, ρ, ok, q⟩ => seqA ok q fun ds F' H' vs e1 r q1 => ?_
  obtain ⟨hl, q1⟩ := R.all_grd.mp q1
  have k1 := ok.step e1
  exact ⟨B.dl, F', ds, hl, k1.fh, k1.dk, k1.df, r, R.all_imp (fun d z F2 H2 v e2 r2 => z F2 H2 v (e1.trans e2) r2) (fun x z F2 H2 c o e2 w => z F2 H2 c o e2 w) q1⟩
end
section
variable {P : Program} {w : World} {K : PySem.W.Frag} {mg : Str → Option Value} {base : Heap}
/-- a body's proof, in any context in which the def may run -/
def BodyOk (P : Program) (w : World) (K : PySem.W.Frag) (mg : Str → Option Value) (base : Heap) (N : List Str) (qual : Str) (st : Stmt) (k : Nat) (mb : Rho → R Out) : Prop :=
  ∀ (f : Addr) (cdv : Value) (A : Around) (outer : List Env) (s : Shared) (H : Hp) (E : XK) (B : Bx), RG k (cxF P w K mg base N qual (defScope st) f cdv A outer s H E).A → Takes (cxF P w K mg base N qual (defScope st) f cdv A outer s H E) B.W →
    PassesOwn (model P w) (cxF P w K mg base N qual (defScope st) f cdv A outer s H E).A (cxF P w K mg base N qual (defScope st) f cdv A outer s H E).env (cxF P w K mg base N qual (defScope st) f cdv A outer s H E).xe →
    PSs (cxF P w K mg base N qual (defScope st) f cdv A outer s H E) (defBody st) (yS ⟨K, mg⟩ B mb)
theorem start_ok {Z : Kx} {dl : DL} {F H : Hp} {W : WX} {ds : List D} {vs : List V} {N : List Str} {n : Nat} (hl : ds.length = n) (sf : Same F H) (dk : DealOk dl H) (df : ∀ b, Dl dl b → F b = none) (r : RpL Z.mg dl F ds vs) : Ok Z ⟨dl, F, H, W, 0, none⟩ F H (start N vs) (ds.map Sl.sh ++ List.replicate (N.length - n) Sl.no) := by
  have hv : vs.length = n := by rw [RpL.length r, hl]
  refine ⟨.refl sf dk, df, dk, ?_, fun i s e => ?_, fun i j ds' es a ne e1 e2 e3 e4 => ?_⟩
  · unfold L2.start
    rw [List.length_append, List.length_append, List.length_map, List.length_map, List.length_replicate, List.length_replicate, hv, hl]
  · unfold L2.start
    by_cases hi : i < ds.length
    · rw [List.getElem?_append_left (by rw [List.length_map]; exact hi), List.getElem?_map] at e
      rw [List.getElem?_append_left (by rw [List.length_map, RpL.length r]; exact hi), List.getElem?_map]
      rw [List.getElem?_eq_getElem hi] at e
      cases e
      obtain ⟨v, ev, rv⟩ := RpL.get r (List.getElem?_eq_getElem hi)
      rw [ev]
      exact ⟨v, rfl, rv⟩
    · rw [List.getElem?_append_right (by rw [List.length_map]; omega), List.getElem?_replicate] at e
      split at e
      · cases e; trivial
      · cases e
  · exfalso
    by_cases hi : i < ds.length
    · rw [List.getElem?_append_left (by rw [List.length_map]; exact hi), List.getElem?_map, List.getElem?_eq_getElem hi] at e1
      cases e1
    · rw [List.getElem?_append_right (by rw [List.length_map]; omega), List.getElem?_replicate] at e1
      split at e1 <;> cases e1
theorem fn_y {x qual : Str} {st : Stmt} {f : Addr} {fd : FuncData} {N ps : List Str} {k : Nat} {mb : Rho → R Out} (F : Fun K x qual st f fd) (S : FnScope N ps (defScope st)) (hb : BodyOk P w K mg base N qual st k mb) :
    FnG P w K mg base (k + 1) f fd ps (spD ⟨K, mg⟩ ps.length (mFun N.length ps.length mb)) := by
  refine fnG_of F S (fun vs H Q E h => ?_) (fun cdv A outer s H vs Q E hr h => ?_)
  · obtain ⟨dl, F, ds, hl, _, _, _, r, _⟩ := h
    rw [RpL.length r, hl]
  · obtain ⟨dl, F, ds, hl, sf, dk, df, r, q⟩ := h
    refine ⟨yS ⟨K, mg⟩ ⟨dl, F, H, fun c o _ H => E c o H, 0, none⟩ mb, hb f cdv A outer s H E ⟨dl, F, H, fun c o _ H => E c o H, 0, none⟩ hr (takes_of rfl rfl rfl rfl) (passes_of rfl), ?_⟩
    refine ⟨F, _, start_ok hl sf dk df r, R.all_imp (fun o z => ?_) (fun _ z => z.elim) (R.all_nb.mp q)⟩
    cases o with
    | next ρ => exact fun F' H' σ' _ k => z F' H' .non k.ext Rp.non
    | ret d => exact z
    | brk ρ => exact z.elim
    | cont ρ => exact z.elim
    | exc x ρ => exact fun F' H' σ' c o _ k q => z F' H' c o k.ext q
theorem cal_y {x qual : Str} {st : Stmt} {f : Addr} {fd : FuncData} {N ps : List Str} {k : Nat} {mb : Rho → R Out} (F : Fun K x qual st f fd) (S : FnScope N ps (defScope st)) (g : mg x = some (.ref f)) (b : Binds K fd ps []) (hb : BodyOk P w K mg base N qual st k mb) :
    Cal P w K mg base (k + 1) x ps.length (mFun N.length ps.length mb) := ⟨f, fd, ps, fn_y F S hb, g, F.kp, b⟩
end
end Y
/-! # Y7 -/
set_option Elab.async false
set_option linter.all false
set_option maxRecDepth 100000
set_option maxHeartbeats 4000000
namespace Y
open PySem PySem.Spec L2

/-! ### operators on data -/
def dAdd : D → D → R D
  | .int i, .int j => .ok (.int (i + j))
  | .lst a, .lst b => R.grd (a.length + b.length ≤ 16777216) (.ok (.lst (a ++ b)))
  | .tup a, .tup b => R.grd (a.length + b.length ≤ 16777216) (.ok (.tup (a ++ b)))
  | .str a, .str b => R.grd (a.length + b.length ≤ 16777216) (.ok (.str (a ++ b)))
  | .int i, .bl k => .ok (.int (i + PyProof.Rows.b2i k))
  | _, _ => .stuck
def dSub : D → D → R D
  | .int i, .int j => .ok (.int (i - j))
  | _, _ => .stuck
def small64 (i : Int) : Prop := -(2 ^ 64) < i ∧ i < 2 ^ 64
instance (i : Int) : Decidable (small64 i) := inferInstanceAs (Decidable (_ ∧ _))
def dMul : D → D → R D
  | .int i, .int j => R.grd (small64 i ∨ small64 j) (.ok (.int (i * j)))
  | .lst a, .int k => R.grd (-(2 ^ 63) ≤ k ∧ k < 2 ^ 63 ∧ a.length * k.toNat ≤ 16777216) (.ok (.lst (List.replicate k.toNat a).flatten))
  | _, _ => .stuck
def dDiv : D → D → R D
  | .int i, .int j => R.grd (0 < j ∧ j < 2 ^ 200) (.ok (.int (i / j)))
  | _, _ => .stuck
def dMod : D → D → R D
  | .int i, .int j => R.grd (0 < j) (.ok (.int (i % j)))
  | _, _ => .stuck
def dPow : D → D → R D
  | .int i, .int j => R.grd (0 ≤ j ∧ j ≤ 1000000 ∧ i.natAbs < 2 ^ 64) (.ok (.int (i ^ j.toNat)))
  | _, _ => .stuck
def dLt : D → D → R D
  | .int i, .int j => .ok (.bl (decide (i < j)))
  | _, _ => .stuck
def dLe : D → D → R D
  | .int i, .int j => .ok (.bl (decide (i ≤ j)))
  | _, _ => .stuck
def dGt : D → D → R D
  | .int i, .int j => .ok (.bl (decide (j < i)))
  | _, _ => .stuck
def dGe : D → D → R D
  | .int i, .int j => .ok (.bl (decide (j ≤ i)))
  | _, _ => .stuck
def dNeg : D → R D
  | .int i => .ok (.int (-i))
  | _ => .stuck
def atD {α : Type} (xs : List α) (i : Int) : Option α := if 0 ≤ i then xs[i.toNat]? else if -(xs.length : Int) ≤ i then xs[(i + xs.length).toNat]? else none
def dIx : D → D → R D
  | .lst a, .int i => match atD a i with
    | some d => .ok d
    | none => .stuck
  | .tup a, .int i => match atD a i with
    | some d => .ok d
    | none => .stuck
  | .str z, .int i => R.grd (z.length ≤ 16777216) (match atD z.cps.toList i with
    | some c => .ok (.str ⟨#[c]⟩)
    | none => .stuck)
  | _, _ => .stuck
theorem atD_eq {α : Type} (xs : List α) (i : Int) {v : α} (h : atD xs i = some v) : atI xs i = some v := by
  unfold atD at h
  unfold atI ixN
  by_cases h0 : 0 ≤ i
  · rw [if_pos h0] at h ⊢
    have hl : i.toNat < xs.length := by
      obtain ⟨hl, _⟩ := List.getElem?_eq_some_iff.mp h
      exact hl
    rw [if_pos (by omega)]
    exact h
  · rw [if_neg h0] at h ⊢
    split at h
    · rename_i h1
      rw [if_pos h1]
      exact h
    · cases h
theorem atD_lt {α : Type} {xs : List α} {i : Int} {v : α} (h : atD xs i = some v) : ∃ j : Nat, xs[j]? = some v ∧ ∀ {β : Type} (ys : List β), ys.length = xs.length → atD ys i = ys[j]? := by
  unfold atD at h
  by_cases h0 : 0 ≤ i
  · rw [if_pos h0] at h
    refine ⟨_, h, fun ys _ => ?_⟩
    unfold atD
    rw [if_pos h0]
  · rw [if_neg h0] at h
    split at h
    · rename_i h1
      refine ⟨_, h, fun ys e => ?_⟩
      unfold atD
      rw [if_neg h0, if_pos (by rw [e]; exact h1), e]
    · cases h
section
variable {Z : Kx} {B : Bx}
theorem RpL.atD {dl : DL} {F : Hp} {ds : List D} {vs : List V} {i : Int} {d : D} (r : RpL Z.mg dl F ds vs) (h : Y.atD ds i = some d) : ∃ v, atI vs i = some v ∧ Rp Z.mg dl F d v := by
  obtain ⟨j, e, k⟩ := atD_lt h
  obtain ⟨v, ev, rv⟩ := RpL.get r e
  refine ⟨v, atD_eq _ _ ?_, rv⟩
  rw [k vs (RpL.length r)]
  exact ev
variable {F H : Hp} {Q : VK} {E : D → Prop}
theorem fin_int {i : Int} (s : Same F H) (k : DealOk B.dl H) (q : PE1 Z B F H Q (.int i)) : Q (.int i) H := q F H _ (.refl s k) (Rp.int i)
theorem fin_bl {i : Bool} (s : Same F H) (k : DealOk B.dl H) (q : PE1 Z B F H Q (.bl i)) : Q (.bl i) H := q F H _ (.refl s k) (Rp.bl i)
theorem fin_str {i : Str} (s : Same F H) (k : DealOk B.dl H) (q : PE1 Z B F H Q (.str i)) : Q (.str i) H := q F H _ (.refl s k) (Rp.str i)
theorem fin_lst {ds : List D} {vs : List V} (s : Same F H) (k : DealOk B.dl H) (r : RpLX Z B F ds vs) (q : PE1 Z B F H Q (.lst ds)) : ∀ p, H p = none → Q (.ref p) (upd H p (.lst vs)) := fun p hp =>
  q _ _ _ (.lay s k hp _) (Rp.lst upd_same (RpL.mono (L2.Same.refl _ |>.trans (same_upd (same_none s hp))) _ _ r))
theorem fin_tup {ds : List D} {vs : List V} (s : Same F H) (k : DealOk B.dl H) (r : RpLX Z B F ds vs) (q : PE1 Z B F H Q (.tup ds)) : ∀ p, H p = none → Q (.ref p) (upd H p (.tup vs)) := fun p hp =>
  q _ _ _ (.lay s k hp _) (Rp.tup upd_same (RpL.mono (same_upd (same_none s hp)) _ _ r))
end
def rAdd (K : PySem.W.Frag) : R2 := fun x y H Q => (rI0 fun i j => .int (i + j)) x y H Q ∨ rCat x y H Q ∨ rCatA K x y H Q ∨ (∃ i j, x = .str i ∧ y = .str j ∧ i.length + j.length ≤ sizeLine ∧ Q (.str (i ++ j)) H) ∨ (∃ i k, x = .int i ∧ y = .bl k ∧ Q (.int (i + PyProof.Rows.b2i k)) H)
section
variable {X : Cx} {B : Bx} {e a b : Expr} {pos : Pos} {m ma mb : Rho → R D}
theorem op_addA : OpR X (binaryOp .Add) (rAdd X.K) := opR_or op_add (opR_or op_cat (opR_or op_catA (opR_or op_add_str op_add_ib)))
theorem opd_add : OpD X.kx B (rAdd X.K) dAdd := fun x y v1 v2 F H Q E s k r1 r2 q => by
  unfold dAdd at q
  split at q
  · cases r1.int; cases r2.int
    exact .inl ⟨_, _, rfl, rfl, fin_int s k q⟩
  · obtain ⟨hl, q⟩ := R.all_grd.mp q
    obtain ⟨p1, vs1, rfl, h1, l1⟩ := r1.lst s
    obtain ⟨p2, vs2, rfl, h2, l2⟩ := r2.lst s
    exact .inr (.inl ⟨p1, p2, vs1, vs2, rfl, rfl, h1, h2, by rw [RpL.length l1, RpL.length l2, szl]; exact hl, fin_lst s k (RpL.append l1 l2) q⟩)
  · obtain ⟨hl, q⟩ := R.all_grd.mp q
    have rr1 := r1
    have rr2 := r2
    obtain ⟨p1, vs1, rfl, h1, l1⟩ := r1.tup s
    obtain ⟨p2, vs2, rfl, h2, l2⟩ := r2.tup s
    refine .inr (.inr (.inl ⟨p1, p2, vs1, vs2, rfl, rfl, .inl (.inl h1), .inl (.inl h2), by rw [RpL.length l1, RpL.length l2, szl]; exact hl, fun e => ?_, fun _ e => ?_, fun _ _ => fin_tup s k (RpL.append l1 l2) q⟩))
    · subst e
      have z := RpL.length l1
      have e0 : _ = [] := List.eq_nil_of_length_eq_zero z.symm
      subst e0
      rcases rr2 with w | ⟨_, _, _, w, _⟩
      · exact q F H _ (.refl s k) w
      · cases w
    · subst e
      have z := RpL.length l2
      have e0 : _ = [] := List.eq_nil_of_length_eq_zero z.symm
      subst e0
      rw [List.append_nil] at q
      rcases rr1 with w | ⟨_, _, _, w, _⟩
      · exact q F H _ (.refl s k) w
      · cases w
  · obtain ⟨hl, q⟩ := R.all_grd.mp q
    cases r1.str; cases r2.str
    exact .inr (.inr (.inr (.inl ⟨_, _, rfl, rfl, by rw [szl]; exact hl, fin_str s k q⟩)))
  · cases r1.int; cases r2.bl
    exact .inr (.inr (.inr (.inr ⟨_, _, rfl, rfl, fin_int s k q⟩)))
  · exact q.elim
theorem opd_sub : OpD X.kx B (rI0 fun i j => .int (i - j)) dSub := fun x y v1 v2 F H Q E s k r1 r2 q => by
  unfold dSub at q
  split at q
  · cases r1.int; cases r2.int
    exact ⟨_, _, rfl, rfl, fin_int s k q⟩
  · exact q.elim
def rMul : R2 := fun x y H Q => (rI CMul fun i j => .int (i * j)) x y H Q ∨ rRep x y H Q
theorem op_mulA : OpR X (binaryOp .Mult) rMul := opR_or op_mul op_rep
theorem RpL.rep {mg : Str → Option Value} {dl : DL} {F : Hp} {ds : List D} {vs : List V} (r : RpL mg dl F ds vs) : ∀ n : Nat, RpL mg dl F (List.replicate n ds).flatten (List.replicate n vs).flatten
  | 0 => RpL.nil
  | n + 1 => by
    rw [List.replicate_succ, List.replicate_succ, List.flatten_cons, List.flatten_cons]
    exact RpL.append r (RpL.rep r n)
theorem opd_mul : OpD X.kx B rMul dMul := fun x y v1 v2 F H Q E s k r1 r2 q => by
  unfold dMul at q
  split at q
  · obtain ⟨hl, q⟩ := R.all_grd.mp q
    cases r1.int; cases r2.int
    exact .inl ⟨_, _, rfl, rfl, hl, fin_int s k q⟩
  · obtain ⟨hl, q⟩ := R.all_grd.mp q
    obtain ⟨p1, vs1, rfl, h1, l1⟩ := r1.lst s
    cases r2.int
    exact .inr ⟨p1, _, vs1, rfl, rfl, h1, hl.1, hl.2.1, by rw [RpL.length l1, szl]; exact hl.2.2, fin_lst s k (RpL.rep l1 _) q⟩
  · exact q.elim
theorem opd_div : OpD X.kx B (rI CDivW fun i j => .int (i / j)) dDiv := fun x y v1 v2 F H Q E s k r1 r2 q => by
  unfold dDiv at q
  split at q
  · rename_i i j
    obtain ⟨hl, q⟩ := R.all_grd.mp q
    cases r1.int; cases r2.int
    refine ⟨_, _, rfl, rfl, wide_div hl.1 (b := 200) ?_ (by decide) (by decide), fin_int s k q⟩
    have h1 := hl.1
    have h2 := hl.2
    omega
  · exact q.elim
theorem opd_mod : OpD X.kx B (rI (fun _ j => 0 < j) fun i j => .int (i % j)) dMod := fun x y v1 v2 F H Q E s k r1 r2 q => by
  unfold dMod at q
  split at q
  · obtain ⟨hl, q⟩ := R.all_grd.mp q
    cases r1.int; cases r2.int
    exact ⟨_, _, rfl, rfl, hl, fin_int s k q⟩
  · exact q.elim
theorem opd_pow : OpD X.kx B (rI CPow fun i j => .int (i ^ j.toNat)) dPow := fun x y v1 v2 F H Q E s k r1 r2 q => by
  unfold dPow at q
  split at q
  · obtain ⟨hl, q⟩ := R.all_grd.mp q
    cases r1.int; cases r2.int
    exact ⟨_, _, rfl, rfl, hl, fin_int s k q⟩
  · exact q.elim
theorem opd_lt : OpD X.kx B (rI0 fun i j => .bl (decide (i < j))) dLt := fun x y v1 v2 F H Q E s k r1 r2 q => by
  unfold dLt at q
  split at q
  · cases r1.int; cases r2.int
    exact ⟨_, _, rfl, rfl, fin_bl s k q⟩
  · exact q.elim
theorem opd_le : OpD X.kx B (rI0 fun i j => .bl (decide (i ≤ j))) dLe := fun x y v1 v2 F H Q E s k r1 r2 q => by
  unfold dLe at q
  split at q
  · cases r1.int; cases r2.int
    exact ⟨_, _, rfl, rfl, fin_bl s k q⟩
  · exact q.elim
theorem opd_gt : OpD X.kx B (rI0 fun i j => .bl (decide (j < i))) dGt := fun x y v1 v2 F H Q E s k r1 r2 q => by
  unfold dGt at q
  split at q
  · cases r1.int; cases r2.int
    exact ⟨_, _, rfl, rfl, fin_bl s k q⟩
  · exact q.elim
theorem opd_ge : OpD X.kx B (rI0 fun i j => .bl (decide (j ≤ i))) dGe := fun x y v1 v2 F H Q E s k r1 r2 q => by
  unfold dGe at q
  split at q
  · cases r1.int; cases r2.int
    exact ⟨_, _, rfl, rfl, fin_bl s k q⟩
  · exact q.elim
theorem RpB.frz_item {F H : Hp} {d : D} {v : V} (s : Same F H) (k : DealOk B.dl H) {Q : VK} (r : RpX X.kx B F d v) (q : PE1 X.kx B F H Q d) : Q v H := q F H v (.refl s k) r
theorem opd_ix : OpD X.kx B (rIx X.K) dIx := fun x y v1 v2 F H Q E s k r1 r2 q => by
  unfold dIx at q
  split at q
  · split at q
    · rename_i d e
      obtain ⟨p1, vs1, rfl, h1, l1⟩ := r1.lst s
      cases r2.int
      obtain ⟨v, ev, rv⟩ := RpL.atD l1 e
      exact .inl ⟨p1, vs1, _, v, rfl, rfl, .inl (.inl h1), ev, q F H v (.refl s k) rv⟩
    · exact q.elim
  · split at q
    · rename_i d e
      obtain ⟨p1, vs1, rfl, h1, l1⟩ := r1.tup s
      cases r2.int
      obtain ⟨v, ev, rv⟩ := RpL.atD l1 e
      exact .inr (.inl ⟨p1, vs1, _, v, rfl, rfl, .inl (.inl h1), ev, q F H v (.refl s k) rv⟩)
    · exact q.elim
  · obtain ⟨hl, q⟩ := R.all_grd.mp q
    split at q
    · rename_i c e
      cases r1.str; cases r2.int
      exact .inr (.inr ⟨_, _, c, rfl, rfl, by rw [szl]; exact hl, atD_eq _ _ e, fin_str s k q⟩)
    · exact q.elim
  · exact q.elim
theorem ce_add (ha : PE X a (yB X.kx B ma)) (hb : PE X b (yB X.kx B mb)) : PE X (.BinOp a .Add b pos) (yE X.kx B (mBin dAdd ma mb)) := ce_op op_addA opd_add ha hb
theorem ce_sub (ha : PE X a (yB X.kx B ma)) (hb : PE X b (yB X.kx B mb)) : PE X (.BinOp a .Sub b pos) (yE X.kx B (mBin dSub ma mb)) := ce_op op_sub opd_sub ha hb
theorem ce_mul (ha : PE X a (yB X.kx B ma)) (hb : PE X b (yB X.kx B mb)) : PE X (.BinOp a .Mult b pos) (yE X.kx B (mBin dMul ma mb)) := ce_op op_mulA opd_mul ha hb
theorem ce_div (ha : PE X a (yB X.kx B ma)) (hb : PE X b (yB X.kx B mb)) : PE X (.BinOp a .FloorDiv b pos) (yE X.kx B (mBin dDiv ma mb)) := ce_op op_fdivW opd_div ha hb
theorem ce_mod (ha : PE X a (yB X.kx B ma)) (hb : PE X b (yB X.kx B mb)) : PE X (.BinOp a .Mod b pos) (yE X.kx B (mBin dMod ma mb)) := ce_op op_mod opd_mod ha hb
theorem ce_pow (ha : PE X a (yB X.kx B ma)) (hb : PE X b (yB X.kx B mb)) : PE X (.BinOp a .Pow b pos) (yE X.kx B (mBin dPow ma mb)) := ce_op op_pow opd_pow ha hb
theorem ce_lt (ha : PE X a (yB X.kx B ma)) (hb : PE X b (yB X.kx B mb)) : PE X (.Compare a [.Lt] [b] pos) (yE X.kx B (mBin dLt ma mb)) := ce_cmp op_lt opd_lt ha hb (nomark _)
theorem ce_le (ha : PE X a (yB X.kx B ma)) (hb : PE X b (yB X.kx B mb)) : PE X (.Compare a [.LtE] [b] pos) (yE X.kx B (mBin dLe ma mb)) := ce_cmp op_le opd_le ha hb (nomark _)
theorem ce_gt (ha : PE X a (yB X.kx B ma)) (hb : PE X b (yB X.kx B mb)) : PE X (.Compare a [.Gt] [b] pos) (yE X.kx B (mBin dGt ma mb)) := ce_cmp op_gt opd_gt ha hb (nomark _)
theorem ce_ge (ha : PE X a (yB X.kx B ma)) (hb : PE X b (yB X.kx B mb)) : PE X (.Compare a [.GtE] [b] pos) (yE X.kx B (mBin dGe ma mb)) := ce_cmp op_ge opd_ge ha hb (nomark _)
theorem ce_ix (ha : PE X a (yB X.kx B ma)) (hb : PE X b (yB X.kx B mb)) (hs : PlainIx b := by exact fun _ _ => rfl) : PE X (.Subscript a b pos) (yE X.kx B (mBin dIx ma mb)) := ce_ixg ix_seq opd_ix ha hb hs
theorem ce_neg (ha : PE X a (yB X.kx B ma)) : PE X (.UnaryOp .USub a pos) (yE X.kx B (mUn dNeg ma)) := pe_imp (pe_un un_neg ha) fun σ H Q ⟨F, ρ, ok, q⟩ => seqB ok q fun d F' H' v e1 r q1 => by
  have k := ok.step e1
  unfold dNeg at q1
  split at q1
  · cases r.int
    exact ⟨_, rfl, fin_int k.fh k.dk (PE1.step q1 e1)⟩
  · exact q1.elim
end
end Y
/-! # Y8 -/
set_option Elab.async false
set_option linter.all false
set_option maxRecDepth 100000
set_option maxHeartbeats 4000000
namespace Y
open PySem PySem.Spec L2

/-! ### == of data -/
mutual
def D.plain : D → Bool
  | .obj _ _ => false
  | .deal => false
  | .tup ds => D.plainL ds
  | .lst ds => D.plainL ds
  | _ => true
def D.plainL : List D → Bool
  | [] => true
  | d :: ds => D.plain d && D.plainL ds
end
mutual
def D.py : D → PyData
  | .non => .none
  | .bl b => .bool b
  | .int i => .int i
  | .str s => .str s
  | .tup ds => .tuple (D.pyL ds)
  | .lst ds => .list (D.pyL ds)
  | .obj _ _ => .none
  | .deal => .none
def D.pyL : List D → List PyData
  | [] => []
  | d :: ds => D.py d :: D.pyL ds
end
section
variable {Z : Kx} {B : Bx} {F H : Hp}
mutual
theorem dp_of (s : Same F H) : ∀ (d : D) (v : V), d.plain = true → Rp Z.mg B.dl F d v → Dp Z.K H v d.py
  | .non, v, _, h => by unfold Rp at h; subst h; exact .non
  | .bl b, v, _, h => by unfold Rp at h; subst h; exact .bl b
  | .int i, v, _, h => by unfold Rp at h; subst h; exact .int i
  | .str x, v, _, h => by unfold Rp at h; subst h; exact .str x
  | .tup ds, v, p, h => by
    unfold Rp at h
    obtain ⟨a, vs, rfl, q, r⟩ := h
    unfold D.plain at p
    exact .tup (.inl (.inl (s _ _ q))) (dpL_of s ds vs p r)
  | .lst ds, v, p, h => by
    unfold Rp at h
    obtain ⟨a, vs, rfl, q, r⟩ := h
    unfold D.plain at p
    exact .lst (.inl (.inl (s _ _ q))) (dpL_of s ds vs p r)
  | .obj c ds, v, p, h => by unfold D.plain at p; cases p
  | .deal, v, p, h => by unfold D.plain at p; cases p
theorem dpL_of (s : Same F H) : ∀ (ds : List D) (vs : List V), D.plainL ds = true → RpL Z.mg B.dl F ds vs → DpAll Z.K H vs (D.pyL ds)
  | [], vs, _, h => by unfold RpL at h; subst h; exact .nil
  | d :: ds, vs, p, h => by
    unfold RpL at h
    obtain ⟨v, r, rfl, q, t⟩ := h
    unfold D.plainL at p
    rw [Bool.and_eq_true] at p
    exact .cons (dp_of s d v p.1 q) (dpL_of s ds r p.2 t)
end
theorem dpB {d : D} {v : V} (s : Same F H) (p : d.plain = true) (h : RpB Z B F H d v) : Dp Z.K H v d.py := by
  rcases h with h | ⟨ds, a, vs, rfl, rfl, n, q, r⟩
  · exact dp_of (B := B) s d v p h
  · unfold D.plain at p
    exact .lst (.inl (.inl q)) (dpL_of (B := B) s ds vs p r)
end
/-- == is asked of such data only -/
def cmpOk (x y : D) : Bool := x.plain && y.plain && SeqAt.shaped x.py && SeqAt.shaped y.py
def dEq (x y : D) : R D := R.grd (cmpOk x y = true) (.ok (.bl (PyData.eqv x.py y.py)))
def dNe (x y : D) : R D := R.grd (cmpOk x y = true) (.ok (.bl (!PyData.eqv x.py y.py)))
def D.flat : D → Bool
  | .non => true
  | .bl _ => true
  | .int _ => true
  | .str _ => true
  | _ => false
def D.v : D → V
  | .bl b => .bl b
  | .int i => .int i
  | .str s => .str s
  | _ => .non
def dInG (neg : Bool) : D → D → R D
  | x, .lst ds => R.grd ((x.flat && ds.all D.flat) = true) (.ok (.bl (if neg then !inV x.v (ds.map D.v) else inV x.v (ds.map D.v))))
  | x, .tup ds => R.grd ((x.flat && ds.all D.flat) = true) (.ok (.bl (if neg then !inV x.v (ds.map D.v) else inV x.v (ds.map D.v))))
  | _, _ => .stuck
def D.isNon : D → Bool
  | .non => true
  | _ => false
def dIs (x y : D) : R D := match y with
  | .non => .ok (.bl x.isNon)
  | _ => .stuck
def dIsNot (x y : D) : R D := match y with
  | .non => .ok (.bl (!x.isNon))
  | _ => .stuck
theorem flat_v {Z : Kx} {dl : DL} {F : Hp} {d : D} {v : V} (f : d.flat = true) (h : Rp Z.mg dl F d v) : v = d.v := by
  cases d with
  | non => unfold Rp at h; exact h
  | bl b => unfold Rp at h; exact h
  | int b => unfold Rp at h; exact h
  | str b => unfold Rp at h; exact h
  | tup b => cases f
  | lst b => cases f
  | obj c b => cases f
  | deal => cases f
theorem flat_flat {d : D} (f : d.flat = true) : flatV d.v = true := by
  cases d with
  | non => rfl
  | bl b => rfl
  | int b => rfl
  | str b => rfl
  | tup b => cases f
  | lst b => cases f
  | obj c b => cases f
  | deal => cases f
theorem flat_vL {Z : Kx} {dl : DL} {F : Hp} : ∀ {ds : List D} {vs : List V}, ds.all D.flat = true → RpL Z.mg dl F ds vs → vs = ds.map D.v
  | [], vs, _, h => by unfold RpL at h; exact h
  | d :: ds, vs, f, h => by
    unfold RpL at h
    obtain ⟨v, r, rfl, q, t⟩ := h
    rw [List.all_cons, Bool.and_eq_true] at f
    rw [List.map_cons, flat_v f.1 q, flat_vL f.2 t]
theorem flat_all : ∀ {ds : List D}, ds.all D.flat = true → (ds.map D.v).all flatV = true
  | [], _ => rfl
  | d :: ds, f => by
    rw [List.all_cons, Bool.and_eq_true] at f
    rw [List.map_cons, List.all_cons, flat_flat f.1, flat_all f.2]
    rfl
section
variable {X : Cx} {B : Bx} {e a b c : Expr} {pos : Pos} {m ma mb mc : Rho → R D}
theorem opd_eq : OpD X.kx B (rEqD X.K) dEq := fun x y v1 v2 F H Q E s k r1 r2 q => by
  obtain ⟨hc, q⟩ := R.all_grd.mp q
  unfold cmpOk at hc
  rw [Bool.and_eq_true, Bool.and_eq_true, Bool.and_eq_true] at hc
  obtain ⟨⟨⟨p1, p2⟩, s1⟩, s2⟩ := hc
  exact ⟨_, _, dpB s p1 r1, dpB s p2 r2, s1, s2, fin_bl s k q⟩
theorem opd_ne : OpD X.kx B (rNeD X.K) dNe := fun x y v1 v2 F H Q E s k r1 r2 q => by
  obtain ⟨hc, q⟩ := R.all_grd.mp q
  unfold cmpOk at hc
  rw [Bool.and_eq_true, Bool.and_eq_true, Bool.and_eq_true] at hc
  obtain ⟨⟨⟨p1, p2⟩, s1⟩, s2⟩ := hc
  exact ⟨_, _, dpB s p1 r1, dpB s p2 r2, s1, s2, fin_bl s k q⟩
theorem opd_in {neg : Bool} : OpD X.kx B (rIn X.K neg) (dInG neg) := fun x y v1 v2 F H Q E s k r1 r2 q => by
  unfold dInG at q
  split at q
  · obtain ⟨hc, q⟩ := R.all_grd.mp q
    rw [Bool.and_eq_true] at hc
    obtain ⟨p, vs, rfl, h1, l1⟩ := r2.lst s
    have e1 : v1 = x.v := by
      rcases r1 with r1 | ⟨_, _, _, rfl, _⟩
      · exact flat_v hc.1 r1
      · cases hc.1
    have e2 := flat_vL hc.2 l1
    subst e1 e2
    exact ⟨p, _, rfl, .inl (.inl (.inl h1)), flat_flat hc.1, flat_all hc.2, fin_bl s k q⟩
  · obtain ⟨hc, q⟩ := R.all_grd.mp q
    rw [Bool.and_eq_true] at hc
    obtain ⟨p, vs, rfl, h1, l1⟩ := r2.tup s
    have e1 : v1 = x.v := by
      rcases r1 with r1 | ⟨_, _, _, rfl, _⟩
      · exact flat_v hc.1 r1
      · cases hc.1
    have e2 := flat_vL hc.2 l1
    subst e1 e2
    exact ⟨p, _, rfl, .inr (.inl (.inl h1)), flat_flat hc.1, flat_all hc.2, fin_bl s k q⟩
  · exact q.elim
theorem non_iff {Z : Kx} {F H : Hp} {d : D} {v : V} (r : RpB Z B F H d v) : (decide (v = V.non)) = d.isNon := by
  cases d with
  | non => cases r.non; rfl
  | bl b => cases r.bl; rfl
  | int b => cases r.int; rfl
  | str b => cases r.str; rfl
  | tup ds =>
    rcases r with r | ⟨_, _, _, w, _⟩
    · unfold RpX Rp at r
      obtain ⟨a, vs, rfl, _⟩ := r
      rfl
    · cases w
  | lst ds =>
    rcases r with r | ⟨_, _, _, w, rfl, _⟩
    · unfold RpX Rp at r
      obtain ⟨a, vs, rfl, _⟩ := r
      rfl
    · rfl
  | obj c ds =>
    rcases r with r | ⟨_, _, _, w, _⟩
    · unfold RpX Rp at r
      obtain ⟨a, _, _, _, rfl, _⟩ := r
      rfl
    · cases w
  | deal =>
    rcases r with r | ⟨_, _, _, w, _⟩
    · unfold RpX Rp at r
      obtain ⟨a, _, _, rfl⟩ := r
      rfl
    · cases w
theorem opd_is : OpD X.kx B (fun x y H Q => y = .non ∧ Q (.bl (decide (x = .non))) H) dIs := fun x y v1 v2 F H Q E s k r1 r2 q => by
  unfold dIs at q
  split at q
  · exact ⟨r2.non, by rw [non_iff r1]; exact fin_bl s k q⟩
  · exact q.elim
theorem opd_isNot : OpD X.kx B (fun x y H Q => y = .non ∧ Q (.bl (!decide (x = .non))) H) dIsNot := fun x y v1 v2 F H Q E s k r1 r2 q => by
  unfold dIsNot at q
  split at q
  · refine ⟨r2.non, ?_⟩
    rw [non_iff r1]
    exact fin_bl s k q
  · exact q.elim
/-! ### tests -/
def dBool : D → R Bool
  | .bl b => .ok b
  | _ => .stuck
def dTruth : D → R Bool
  | .non => .ok false
  | .bl b => .ok b
  | .int i => .ok (i != 0)
  | .lst ds => .ok (!ds.isEmpty)
  | .tup ds => .ok (!ds.isEmpty)
  | .str s => R.grd (s.length ≤ 16777216) (.ok ((s.length : Int) != 0))
  | _ => .stuck
def mTb (m : Rho → R D) : Rho → R Bool := fun ρ => (m ρ).bind dBool
def mTt (m : Rho → R D) : Rho → R Bool := fun ρ => (m ρ).bind dTruth
def mAndT (a b : Rho → R Bool) : Rho → R Bool := fun ρ => (a ρ).bind fun c => if c = true then b ρ else .ok false
def mOrT (a b : Rho → R Bool) : Rho → R Bool := fun ρ => (a ρ).bind fun c => if c = true then .ok true else b ρ
def mNotT (a : Rho → R Bool) : Rho → R Bool := fun ρ => (a ρ).bind fun c => .ok (!c)
theorem fin_T {B : Bx} {F H : Hp} {Q : Bool → Hp → Prop} {c : Bool} (s : Same F H) (k : DealOk B.dl H) (q : PT1 B F H Q c) : Q c H := q F H (.refl s k)
theorem bool_read {te : TE} (ht : ∀ σ H Q, yE X.kx B m σ H Q → te σ H Q) : ∀ σ H Q, yT X.kx B (mTb m) σ H Q → tTest te σ H Q := fun σ H Q ⟨F, ρ, ok, q⟩ => ht σ H _ (seqE ok q fun d F' H' v e1 r q1 => by
  have k := ok.step e1
  cases d with
  | bl b => unfold RpX Rp at r; exact ⟨b, r, fin_T k.fh k.dk (PT1.step q1 e1)⟩
  | _ => exact q1.elim)
theorem ct_cmp {op : CmpOp} {r : R2} {f : D → D → R D} (ho : OpR X (compareOp op) r) (hf : OpD X.kx B r f) (ha : PE X a (yB X.kx B ma)) (hb : PE X b (yB X.kx B mb)) (hm : behindInMarks op b = false) : PT X (.Compare a [op] [b] pos) (yT X.kx B (mTb (mBin f ma mb))) :=
  pt_imp (pt_cmpR ho ha hb hm) (bool_read fun _ _ _ q => read2 hf q)
theorem ct_tru (h : PE X e (yB X.kx B m)) (he : ∀ whole, isTrue e X.env whole = (do let v ← whole; standAt e.pos; holding [v] (truthy v)) := by intro _; rfl) : PT X e (yT X.kx B (mTt m)) := pt_imp (pt_truth h he) fun σ H Q ⟨F, ρ, ok, q⟩ => seqB ok q fun d F' H' v e1 r q1 => by
  have k := ok.step e1
  unfold dTruth at q1
  split at q1
  · cases r.non; exact ⟨false, rfl, fin_T k.fh k.dk (PT1.step q1 e1)⟩
  · cases r.bl; exact ⟨_, rfl, fin_T k.fh k.dk (PT1.step q1 e1)⟩
  · cases r.int; exact ⟨_, rfl, fin_T k.fh k.dk (PT1.step q1 e1)⟩
  · rename_i ds
    obtain ⟨p, vs, rfl, h1, l1⟩ := r.lst k.fh
    refine ⟨!vs.isEmpty, .inl ⟨vs, .inl (.inl h1), rfl⟩, ?_⟩
    have ev : vs.isEmpty = ds.isEmpty := by
      have := RpL.length l1
      cases vs <;> cases ds <;> first | rfl | (simp at this)
    rw [ev]
    exact fin_T k.fh k.dk (PT1.step q1 e1)
  · rename_i ds
    obtain ⟨p, vs, rfl, h1, l1⟩ := r.tup k.fh
    refine ⟨!vs.isEmpty, .inr (.inl ⟨vs, .inl (.inl h1), rfl⟩), ?_⟩
    have ev : vs.isEmpty = ds.isEmpty := by
      have := RpL.length l1
      cases vs <;> cases ds <;> first | rfl | (simp at this)
    rw [ev]
    exact fin_T k.fh k.dk (PT1.step q1 e1)
  · obtain ⟨hl, q1⟩ := R.all_grd.mp q1
    cases r.str
    exact ⟨_, ⟨by rw [szl]; exact hl, rfl⟩, fin_T k.fh k.dk (PT1.step q1 e1)⟩
  · exact q1.elim
variable {ta tb : Rho → R Bool} {rest : List Expr}
theorem ct_not (h : PT X a (yT X.kx B ta)) : PT X (.UnaryOp .Not a pos) (yT X.kx B (mNotT ta)) := pt_imp (pt_not h) fun σ H Q ⟨F, ρ, ok, q⟩ => seqT ok q fun c F' H' e1 q1 => q1 F' H' |> fun z => by
  have k := ok.step e1
  exact q1 F' H' e1
theorem cw_and1 (h : PT X a (yT X.kx B ta)) : PW X (.BoolOp .And [a] pos) (yT X.kx B ta) := pw_and1 h
theorem cw_or1 (h : PT X a (yT X.kx B ta)) : PW X (.BoolOp .Or [a] pos) (yT X.kx B ta) := pw_or1 h
theorem cw_and (ha : PT X a (yT X.kx B ta)) (hb : PW X (.BoolOp .And (b :: rest) pos) (yT X.kx B tb)) : PW X (.BoolOp .And (a :: b :: rest) pos) (yT X.kx B (mAndT ta tb)) := pw_imp (pw_and ha hb) fun σ H Q ⟨F, ρ, ok, q⟩ => seqT ok q fun c F' H' e1 q1 => by
  have k := ok.step e1
  cases c with
  | true => rw [if_pos rfl] at q1 ⊢; exact ⟨F', ρ, k, R.all_imp (fun _ z => PT1.step z e1) (fun _ z => z) q1⟩
  | false => rw [if_neg Bool.false_ne_true] at q1 ⊢; exact q1 F' H' e1
theorem cw_or (ha : PT X a (yT X.kx B ta)) (hb : PW X (.BoolOp .Or (b :: rest) pos) (yT X.kx B tb)) : PW X (.BoolOp .Or (a :: b :: rest) pos) (yT X.kx B (mOrT ta tb)) := pw_imp (pw_or ha hb) fun σ H Q ⟨F, ρ, ok, q⟩ => seqT ok q fun c F' H' e1 q1 => by
  have k := ok.step e1
  cases c with
  | false => rw [if_neg Bool.false_ne_true] at q1 ⊢; exact ⟨F', ρ, k, R.all_imp (fun _ z => PT1.step z e1) (fun _ z => z) q1⟩
  | true => rw [if_pos rfl] at q1 ⊢; exact q1 F' H' e1
/-! bools as values -/
def mAndV (a b : Rho → R D) : Rho → R D := fun ρ => (a ρ).bind fun x => (dBool x).bind fun c => if c = true then b ρ else .ok (.bl false)
def mOrV (a b : Rho → R D) : Rho → R D := fun ρ => (a ρ).bind fun x => (dBool x).bind fun c => if c = true then .ok (.bl true) else b ρ
def mNotV (a : Rho → R D) : Rho → R D := fun ρ => (a ρ).bind fun x => (dBool x).bind fun c => .ok (.bl (!c))
def mIfE (t : Rho → R Bool) (a b : Rho → R D) : Rho → R D := fun ρ => (t ρ).bind fun c => if c = true then a ρ else b ρ
theorem ce_one {op} (h : PE X a (yE X.kx B ma)) : PE X (.BoolOp op [a] pos) (yE X.kx B ma) := pe_one h
theorem ce_and (ha : PE X a (yE X.kx B ma)) (hb : PE X (.BoolOp .And (b :: rest) pos) (yE X.kx B mb)) : PE X (.BoolOp .And (a :: b :: rest) pos) (yE X.kx B (mAndV ma mb)) := pe_imp (pe_and ha hb) fun σ H Q ⟨F, ρ, ok, q⟩ => seqE ok q fun d F' H' v e1 r q1 => by
  have k := ok.step e1
  cases d with
  | bl c =>
    unfold RpX Rp at r
    refine ⟨c, r, ?_⟩
    cases c with
    | true => rw [if_pos rfl]; exact ⟨F', ρ, k, R.all_imp (fun _ z => PE1.step z e1) (fun _ z => z) q1⟩
    | false => rw [if_neg Bool.false_ne_true]; exact fin_bl k.fh k.dk (PE1.step q1 e1)
  | _ => exact q1.elim
theorem ce_or (ha : PE X a (yE X.kx B ma)) (hb : PE X (.BoolOp .Or (b :: rest) pos) (yE X.kx B mb)) : PE X (.BoolOp .Or (a :: b :: rest) pos) (yE X.kx B (mOrV ma mb)) := pe_imp (pe_or ha hb) fun σ H Q ⟨F, ρ, ok, q⟩ => seqE ok q fun d F' H' v e1 r q1 => by
  have k := ok.step e1
  cases d with
  | bl c =>
    unfold RpX Rp at r
    refine ⟨c, r, ?_⟩
    cases c with
    | false => rw [if_neg Bool.false_ne_true]; exact ⟨F', ρ, k, R.all_imp (fun _ z => PE1.step z e1) (fun _ z => z) q1⟩
    | true => rw [if_pos rfl]; exact fin_bl k.fh k.dk (PE1.step q1 e1)
  | _ => exact q1.elim
theorem ce_not (ha : PE X a (yE X.kx B ma)) : PE X (.UnaryOp .Not a pos) (yE X.kx B (mNotV ma)) := pe_imp (pe_not ha) fun σ H Q ⟨F, ρ, ok, q⟩ => seqE ok q fun d F' H' v e1 r q1 => by
  have k := ok.step e1
  cases d with
  | bl c =>
    unfold RpX Rp at r
    exact ⟨c, r, fin_bl k.fh k.dk (PE1.step q1 e1)⟩
  | _ => exact q1.elim
theorem ce_if (hc : PT X c (yT X.kx B ta)) (ha : PE X a (yE X.kx B ma)) (hb : PE X b (yE X.kx B mb)) : PE X (.IfExp c a b pos) (yE X.kx B (mIfE ta ma mb)) := pe_imp (pe_ifExp hc ha hb) fun σ H Q ⟨F, ρ, ok, q⟩ => seqT ok q fun c F' H' e1 q1 => by
  have k := ok.step e1
  cases c with
  | true => rw [if_pos rfl] at q1 ⊢; exact ⟨F', ρ, k, R.all_imp (fun _ z => PE1.step z e1) (fun _ z => z) q1⟩
  | false => rw [if_neg Bool.false_ne_true] at q1 ⊢; exact ⟨F', ρ, k, R.all_imp (fun _ z => PE1.step z e1) (fun _ z => z) q1⟩
/-! comparisons by name -/
theorem ce_eq (hr : X.A.units + 64 < cLine) (ha : PE X a (yB X.kx B ma)) (hb : PE X b (yB X.kx B mb)) : PE X (.Compare a [.Eq] [b] pos) (yE X.kx B (mBin dEq ma mb)) := ce_cmp (op_eqD hr) opd_eq ha hb (nomark _)
theorem ce_ne (hr : X.A.units + 64 < cLine) (ha : PE X a (yB X.kx B ma)) (hb : PE X b (yB X.kx B mb)) : PE X (.Compare a [.NotEq] [b] pos) (yE X.kx B (mBin dNe ma mb)) := ce_cmp (op_neD hr) opd_ne ha hb (nomark _)
theorem ce_in (ha : PE X a (yB X.kx B ma)) (hb : PE X b (yB X.kx B mb)) (hm : behindInMarks .In b = false := by rfl) : PE X (.Compare a [.In] [b] pos) (yE X.kx B (mBin (dInG false) ma mb)) := ce_cmp op_in_seq opd_in ha hb hm
theorem ce_notin (ha : PE X a (yB X.kx B ma)) (hb : PE X b (yB X.kx B mb)) (hm : behindInMarks .NotIn b = false := by rfl) : PE X (.Compare a [.NotIn] [b] pos) (yE X.kx B (mBin (dInG true) ma mb)) := ce_cmp op_notIn_seq opd_in ha hb hm
theorem ce_is (ha : PE X a (yB X.kx B ma)) (hb : PE X b (yB X.kx B mb)) : PE X (.Compare a [.Is] [b] pos) (yE X.kx B (mBin dIs ma mb)) := ce_cmp op_isN opd_is ha hb (nomark _)
theorem ce_isnot (ha : PE X a (yB X.kx B ma)) (hb : PE X b (yB X.kx B mb)) : PE X (.Compare a [.IsNot] [b] pos) (yE X.kx B (mBin dIsNot ma mb)) := ce_cmp op_notN opd_isNot ha hb (nomark _)
theorem ct_eq (hr : X.A.units + 64 < cLine) (ha : PE X a (yB X.kx B ma)) (hb : PE X b (yB X.kx B mb)) : PT X (.Compare a [.Eq] [b] pos) (yT X.kx B (mTb (mBin dEq ma mb))) := ct_cmp (op_eqD hr) opd_eq ha hb (nomark _)
theorem ct_ne (hr : X.A.units + 64 < cLine) (ha : PE X a (yB X.kx B ma)) (hb : PE X b (yB X.kx B mb)) : PT X (.Compare a [.NotEq] [b] pos) (yT X.kx B (mTb (mBin dNe ma mb))) := ct_cmp (op_neD hr) opd_ne ha hb (nomark _)
theorem ct_lt (ha : PE X a (yB X.kx B ma)) (hb : PE X b (yB X.kx B mb)) : PT X (.Compare a [.Lt] [b] pos) (yT X.kx B (mTb (mBin dLt ma mb))) := ct_cmp op_lt opd_lt ha hb (nomark _)
theorem ct_le (ha : PE X a (yB X.kx B ma)) (hb : PE X b (yB X.kx B mb)) : PT X (.Compare a [.LtE] [b] pos) (yT X.kx B (mTb (mBin dLe ma mb))) := ct_cmp op_le opd_le ha hb (nomark _)
theorem ct_gt (ha : PE X a (yB X.kx B ma)) (hb : PE X b (yB X.kx B mb)) : PT X (.Compare a [.Gt] [b] pos) (yT X.kx B (mTb (mBin dGt ma mb))) := ct_cmp op_gt opd_gt ha hb (nomark _)
theorem ct_ge (ha : PE X a (yB X.kx B ma)) (hb : PE X b (yB X.kx B mb)) : PT X (.Compare a [.GtE] [b] pos) (yT X.kx B (mTb (mBin dGe ma mb))) := ct_cmp op_ge opd_ge ha hb (nomark _)
theorem ct_in (ha : PE X a (yB X.kx B ma)) (hb : PE X b (yB X.kx B mb)) (hm : behindInMarks .In b = false := by rfl) : PT X (.Compare a [.In] [b] pos) (yT X.kx B (mTb (mBin (dInG false) ma mb))) := ct_cmp op_in_seq opd_in ha hb hm
theorem ct_notin (ha : PE X a (yB X.kx B ma)) (hb : PE X b (yB X.kx B mb)) (hm : behindInMarks .NotIn b = false := by rfl) : PT X (.Compare a [.NotIn] [b] pos) (yT X.kx B (mTb (mBin (dInG true) ma mb))) := ct_cmp op_notIn_seq opd_in ha hb hm
theorem ct_is (ha : PE X a (yB X.kx B ma)) (hb : PE X b (yB X.kx B mb)) : PT X (.Compare a [.Is] [b] pos) (yT X.kx B (mTb (mBin dIs ma mb))) := ct_cmp op_isN opd_is ha hb (nomark _)
theorem ct_isnot (ha : PE X a (yB X.kx B ma)) (hb : PE X b (yB X.kx B mb)) : PT X (.Compare a [.IsNot] [b] pos) (yT X.kx B (mTb (mBin dIsNot ma mb))) := ct_cmp op_notN opd_isNot ha hb (nomark _)
end
end Y
/-! # Y9 -/
set_option Elab.async false
set_option linter.all false
set_option maxRecDepth 100000
set_option maxHeartbeats 4000000
namespace Y
open PySem PySem.Spec L2

/-! ### built-ins: their arguments are read -/
def RpBL (Z : Kx) (B : Bx) (F H : Hp) : List D → List V → Prop
  | [], vs => vs = []
  | d :: ds, vs => ∃ v r, vs = v :: r ∧ RpB Z B F H d v ∧ RpBL Z B F H ds r
theorem RpBL.step {Z : Kx} {B : Bx} {F H F' H' : Hp} (x : Ext B.dl F H F' H') : ∀ {ds : List D} {vs : List V}, RpBL Z B F H ds vs → RpBL Z B F' H' ds vs
  | [], _, h => h
  | _ :: _, _, ⟨v, r, e, q, t⟩ => ⟨v, r, e, q.step x, RpBL.step x t⟩
section
variable (Z : Kx) (B : Bx)
def PB2 (F H : Hp) (Q : List V → Hp → Prop) : List D → Prop := fun ds => ∀ F' H' vs, Ext B.dl F H F' H' → RpBL Z B F' H' ds vs → Q vs H'
def yAB (m : Rho → R (List D)) : TA := fun σ H Q => ∃ F ρ, Ok Z B F H σ ρ ∧ (m ρ).all (PB2 Z B F H Q) (XpE Z B F H σ)
end
theorem seqAB {Z : Kx} {B : Bx} {F H : Hp} {σ : L2.St} {Q : List V → Hp → Prop} {m : Rho → R (List D)} {ρ : Rho} {α : Type} {g : List D → R α} {P : α → Prop} (ok : Ok Z B F H σ ρ) (h : ((m ρ).bind g).all P (XpE Z B F H σ))
    (k : ∀ d F' H' v, Ext B.dl F H F' H' → RpBL Z B F' H' d v → (g d).all P (XpE Z B F' H' σ) → Q v H') : yAB Z B m σ H Q :=
  ⟨F, ρ, ok, R.all_imp (fun d q F' H' v e r => k d F' H' v e r (R.all_imp (fun _ z => z) (fun x z => z.step e) q)) (fun _ z => z) (R.all_bind.mp h)⟩
/-- what a built-in gives, by data -/
def CallD (Z : Kx) (B : Bx) (r : List V → Hp → VK → Prop) (f : List D → R D) : Prop := ∀ (ds : List D) (vs : List V) (F H : Hp) (Q : VK) (E : D → Prop), Same F H → DealOk B.dl H → RpBL Z B F H ds vs → (f ds).all (PE1 Z B F H Q) E → r vs H Q
def mBi (f : List D → R D) (ma : Rho → R (List D)) : Rho → R D := fun ρ => (ma ρ).bind f
def dLen : List D → R D
  | [.lst ds] => .ok (.int ds.length)
  | [.tup ds] => .ok (.int ds.length)
  | [.str s] => R.grd (s.length ≤ 16777216) (.ok (.int s.length))
  | _ => .stuck
def dAbs : List D → R D
  | [.int i] => .ok (.int (if i < 0 then -i else i))
  | _ => .stuck
def dMin2 : List D → R D
  | [.int i, .int j] => .ok (.int (if j < i then j else i))
  | _ => .stuck
def dMax2 : List D → R D
  | [.int i, .int j] => .ok (.int (if j > i then j else i))
  | _ => .stuck
def dInt : List D → R D
  | [.int i] => .ok (.int i)
  | [.bl k] => .ok (.int (if k then 1 else 0))
  | _ => .stuck
section
variable {Z : Kx} {B : Bx} {F H : Hp}
theorem one_arg {d : D} {vs : List V} (h : RpBL Z B F H [d] vs) : ∃ v, vs = [v] ∧ RpB Z B F H d v := by
  obtain ⟨v, r, rfl, q, rfl⟩ := h
  exact ⟨v, rfl, q⟩
theorem two_args {d e : D} {vs : List V} (h : RpBL Z B F H [d, e] vs) : ∃ v w, vs = [v, w] ∧ RpB Z B F H d v ∧ RpB Z B F H e w := by
  obtain ⟨v, r, rfl, q, w, r', rfl, q', rfl⟩ := h
  exact ⟨v, w, rfl, q, q'⟩
end
section
variable {X : Cx} {B : Bx} {e a b : Expr} {es : List Expr} {pos p : Pos} {m ma mb : Rho → R D} {mr : Rho → R (List D)}
theorem cab_nil : PA X [] (yAB X.kx B mNil) := pa_imp pa_nil fun σ H Q ⟨F, ρ, ok, q⟩ => q F H [] (.refl ok.fh ok.dk) rfl
theorem cab_cons (ha : PE X a (yB X.kx B ma)) (hr : PA X es (yAB X.kx B mr)) (hs : starEach (a :: es) X.env = (false, eval a X.env) :: starEach es X.env := by rfl) : PA X (a :: es) (yAB X.kx B (mCons ma mr)) :=
  pa_imp (pa_cons ha hr hs) fun σ H Q ⟨F, ρ, ok, q⟩ => by
    refine seqB ok q fun x F1 H1 v1 e1 r1 q1 => ?_
    refine seqAB (ok.step e1) q1 fun xs F2 H2 vs e2 r2 q2 => ?_
    exact q2 F2 H2 (v1 :: vs) (e1.trans e2) ⟨v1, vs, rfl, r1.step e2, r2⟩
theorem bi_read {r : List V → Hp → VK → Prop} {f : List D → R D} (hf : CallD X.kx B r f) {σ : L2.St} {H : Hp} {Q : VK} (h : yE X.kx B (mBi f mr) σ H Q) : tCB r (yAB X.kx B mr) σ H Q := by
  obtain ⟨F, ρ, ok, q⟩ := h
  refine seqAB ok q fun ds F' H' vs e1 r1 q1 => ?_
  have k := ok.step e1
  exact hf ds vs F' H' Q _ k.fh k.dk r1 (R.all_imp (fun _ z => PE1.step z e1) (fun _ z => z) q1)
theorem ce_bi {id : String} {x : Str} {r : List V → Hp → VK → Prop} {f : List D → R D} (hc : CallR X (.builtin id) r) (hf : CallD X.kx B r f) (hm : X.mg x = none) (hv : bootBuiltins x = some (.builtin id)) (ha : PA X (e :: es) (yAB X.kx B mr)) (hg : Gl X x) (hn : x ≠ "__name__") (hdb : (x == ("__debug__" : Str)) = false)
    (he : starEach (e :: es) X.env = (false, eval e X.env) :: starEach es X.env) (hpl : (backTo pos (starEach es X.env)).any (·.1) = false) : PE X (.Call (.Name x p) (e :: es) [] pos) (yE X.kx B (mBi f mr)) :=
  pe_imp (pe_callB hc hg hm hv ha hn hdb he hpl) fun _ _ _ q => bi_read hf q
theorem ce_ty {T : String} {x : Str} {r : List V → Hp → VK → Prop} {f : List D → R D} (hc : CallR X (.type T) r) (hf : CallD X.kx B r f) (hm : X.mg x = none) (hv : bootBuiltins x = some (.type T)) (ha : PA X (e :: es) (yAB X.kx B mr)) (hg : Gl X x) (hn : x ≠ "__name__") (hdb : (x == ("__debug__" : Str)) = false)
    (he : starEach (e :: es) X.env = (false, eval e X.env) :: starEach es X.env) (hpl : (backTo pos (starEach es X.env)).any (·.1) = false) : PE X (.Call (.Name x p) (e :: es) [] pos) (yE X.kx B (mBi f mr)) :=
  pe_imp (pe_callTy hc hg hm hv ha hn hdb he hpl) fun _ _ _ q => bi_read hf q
theorem cd_len : CallD X.kx B (fun xs H Q => ∃ x n, xs = [x] ∧ LenV X.K x H n ∧ Q (.int n) H) dLen := fun ds vs F H Q E s k r q => by
  unfold dLen at q
  split at q
  · obtain ⟨v, rfl, r1⟩ := one_arg r
    obtain ⟨p, ws, rfl, h1, l1⟩ := r1.lst s
    exact ⟨_, _, rfl, .inl ⟨ws, .inl (.inl h1), (RpL.length l1).symm⟩, fin_int s k q⟩
  · obtain ⟨v, rfl, r1⟩ := one_arg r
    obtain ⟨p, ws, rfl, h1, l1⟩ := r1.tup s
    exact ⟨_, _, rfl, .inr ⟨ws, .inl (.inl h1), (RpL.length l1).symm⟩, fin_int s k q⟩
  · obtain ⟨hl, q⟩ := R.all_grd.mp q
    obtain ⟨v, rfl, r1⟩ := one_arg r
    cases r1.str
    exact ⟨_, _, rfl, ⟨by rw [szl]; exact hl, rfl⟩, fin_int s k q⟩
  · exact q.elim
theorem cd_abs : CallD X.kx B (fun xs H Q => ∃ i, xs = [.int i] ∧ Q (.int (if i < 0 then -i else i)) H) dAbs := fun ds vs F H Q E s k r q => by
  unfold dAbs at q
  split at q
  · obtain ⟨v, rfl, r1⟩ := one_arg r
    cases r1.int
    exact ⟨_, rfl, fin_int s k q⟩
  · exact q.elim
theorem cd_min2 : CallD X.kx B (fun xs H Q => ∃ i j, xs = [.int i, .int j] ∧ Q (.int (if j < i then j else i)) H) dMin2 := fun ds vs F H Q E s k r q => by
  unfold dMin2 at q
  split at q
  · obtain ⟨v, w, rfl, r1, r2⟩ := two_args r
    cases r1.int; cases r2.int
    exact ⟨_, _, rfl, fin_int s k q⟩
  · exact q.elim
theorem cd_max2 : CallD X.kx B (fun xs H Q => ∃ i j, xs = [.int i, .int j] ∧ Q (.int (if j > i then j else i)) H) dMax2 := fun ds vs F H Q E s k r q => by
  unfold dMax2 at q
  split at q
  · obtain ⟨v, w, rfl, r1, r2⟩ := two_args r
    cases r1.int; cases r2.int
    exact ⟨_, _, rfl, fin_int s k q⟩
  · exact q.elim
theorem cd_int : CallD X.kx B (fun xs H Q => (∃ i, xs = [.int i] ∧ Q (.int i) H) ∨ ∃ k, xs = [.bl k] ∧ Q (.int (if k then 1 else 0)) H) dInt := fun ds vs F H Q E s k r q => by
  unfold dInt at q
  split at q
  · obtain ⟨v, rfl, r1⟩ := one_arg r
    cases r1.int
    exact .inl ⟨_, rfl, fin_int s k q⟩
  · obtain ⟨v, rfl, r1⟩ := one_arg r
    cases r1.bl
    exact .inr ⟨_, rfl, fin_int s k q⟩
  · exact q.elim
section
variable (ha : PA X (e :: es) (yAB X.kx B mr))
include ha
theorem ce_len (hm : X.mg "len" = none) (hg : Gl X "len" := by rfl) (he : starEach (e :: es) X.env = (false, eval e X.env) :: starEach es X.env := by rfl) (hpl : (backTo pos (starEach es X.env)).any (·.1) = false := by rfl) :
    PE X (.Call (.Name "len" p) (e :: es) [] pos) (yE X.kx B (mBi dLen mr)) := ce_bi call_len cd_len hm PySem.boot_len ha hg (by decide) (by decide) he hpl
theorem ce_abs (hm : X.mg "abs" = none) (hg : Gl X "abs" := by rfl) (he : starEach (e :: es) X.env = (false, eval e X.env) :: starEach es X.env := by rfl) (hpl : (backTo pos (starEach es X.env)).any (·.1) = false := by rfl) :
    PE X (.Call (.Name "abs" p) (e :: es) [] pos) (yE X.kx B (mBi dAbs mr)) := ce_bi call_abs cd_abs hm (by decide +kernel) ha hg (by decide) (by decide) he hpl
theorem ce_min2 (hc : X.calm = true) (hm : X.mg "min" = none) (hg : Gl X "min" := by rfl) (he : starEach (e :: es) X.env = (false, eval e X.env) :: starEach es X.env := by rfl) (hpl : (backTo pos (starEach es X.env)).any (·.1) = false := by rfl) :
    PE X (.Call (.Name "min" p) (e :: es) [] pos) (yE X.kx B (mBi dMin2 mr)) := ce_bi (call_min2 hc) cd_min2 hm (by decide +kernel) ha hg (by decide) (by decide) he hpl
theorem ce_max2 (hc : X.calm = true) (hm : X.mg "max" = none) (hg : Gl X "max" := by rfl) (he : starEach (e :: es) X.env = (false, eval e X.env) :: starEach es X.env := by rfl) (hpl : (backTo pos (starEach es X.env)).any (·.1) = false := by rfl) :
    PE X (.Call (.Name "max" p) (e :: es) [] pos) (yE X.kx B (mBi dMax2 mr)) := ce_bi (call_max2 hc) cd_max2 hm (by decide +kernel) ha hg (by decide) (by decide) he hpl
theorem ce_intc (hm : X.mg "int" = none) (hg : Gl X "int" := by rfl) (he : starEach (e :: es) X.env = (false, eval e X.env) :: starEach es X.env := by rfl) (hpl : (backTo pos (starEach es X.env)).any (·.1) = false := by rfl) :
    PE X (.Call (.Name "int" p) (e :: es) [] pos) (yE X.kx B (mBi dInt mr)) := ce_ty call_int1 cd_int hm (by decide +kernel) ha hg (by decide) (by decide) he hpl
end
/-! list(x), tuple(x) -/
def mSeqL (m : Rho → R (List D)) : Rho → R (List D) := fun ρ => (m ρ).bind fun ds => match ds with
  | [.lst xs] => .ok xs
  | [.tup xs] => .ok xs
  | _ => .stuck
theorem new_of {Z : Kx} {F H F' H' : Hp} {dl : DL} (e : Ext dl F H F' H') {p : Addr} (h : H' p = none) : H p = none := e.new_old h
theorem co_list {e : Expr} {mr : Rho → R (List D)} (ha : PA X [e] (yAB X.kx B mr)) (hm : X.mg "list" = none) (hg : Gl X "list" := by rfl) (he : starEach [e] X.env = (false, eval e X.env) :: starEach [] X.env := by rfl) (hpl : (backTo pos (starEach [] X.env)).any (·.1) = false := by rfl) :
    PE X (.Call (.Name "list" p) [e] [] pos) (yO X.kx B (mSeqL mr)) := pe_imp (pe_callTy call_list_of hg hm (by decide +kernel) ha (by decide) (by decide) he hpl) fun σ H Q ⟨F, ρ, ok, q⟩ => seqAB ok q fun ds F' H' vs e1 r q1 => by
  have k := ok.step e1
  split at q1
  · obtain ⟨v, rfl, r1⟩ := one_arg r
    obtain ⟨p, ws, rfl, h1, l1⟩ := r1.lst k.fh
    refine ⟨p, ws, rfl, .inl (.inl (.inl h1)), fun l hl => ?_⟩
    exact q1 _ _ l ws (e1.trans (.own k.fh k.dk hl _)) (same_none k.fh hl) (e1.new_old hl) upd_same l1
  · obtain ⟨v, rfl, r1⟩ := one_arg r
    obtain ⟨p, ws, rfl, h1, l1⟩ := r1.tup k.fh
    refine ⟨p, ws, rfl, .inr (.inl (.inl h1)), fun l hl => ?_⟩
    exact q1 _ _ l ws (e1.trans (.own k.fh k.dk hl _)) (same_none k.fh hl) (e1.new_old hl) upd_same l1
  · exact q1.elim
def mTupC (m : Rho → R D) : Rho → R D := fun ρ => (m ρ).bind fun d => match d with
  | .lst xs => .ok (.tup xs)
  | .tup xs => .ok (.tup xs)
  | _ => .stuck
theorem ce_tuple {e : Expr} {m : Rho → R D} (ha : PE X e (yB X.kx B m)) (hm : X.mg "tuple" = none) (hg : Gl X "tuple" := by rfl) (na : starEach [e] X.env = (false, eval e X.env) :: starEach [] X.env := by rfl) :
    PE X (.Call (.Name "tuple" p) [e] [] pos) (yE X.kx B (mTupC m)) := pe_imp (pe_tupleOf hg hm ha na) fun σ H Q ⟨F, ρ, ok, q⟩ => seqB ok q fun d F' H' v e1 r q1 => by
  have k := ok.step e1
  split at q1
  · obtain ⟨p, ws, rfl, h1, l1⟩ := r.lst k.fh
    refine .inl ⟨p, ws, rfl, .inl (.inl h1), fin_tup k.fh k.dk l1 (PE1.step q1 e1)⟩
  · have r0 := r
    obtain ⟨p, ws, rfl, h1, l1⟩ := r.tup k.fh
    refine .inr ⟨p, ws, rfl, .inl (.inl h1), ?_⟩
    rcases r0 with r0 | ⟨_, _, _, w, _⟩
    · exact q1 F' H' _ e1 r0
    · cases w
  · exact q1.elim
/-! slices -/
def cutD {α : Type} (xs : List α) (lo hi : Option Int) : List α := (xs.drop (HT.sIx xs.length 0 lo)).take (HT.sIx xs.length xs.length hi - HT.sIx xs.length 0 lo)
def mPart (m : Rho → R D) : Rho → R (Option Int) := fun ρ => (m ρ).bind fun d => match d with
  | .int i => .ok (some i)
  | _ => .stuck
def mNone : Rho → R (Option Int) := fun _ => .ok none
def yP (Z : Kx) (B : Bx) (m : Rho → R (Option Int)) : TO := fun σ H Q => ∃ F ρ, Ok Z B F H σ ρ ∧ (m ρ).all (fun o => ∀ F' H', Ext B.dl F H F' H' → Q o H') (XpE Z B F H σ)
theorem po_imp {e : Option Expr} {t t' : TO} (h : PO X e t) (i : ∀ σ H Q, t' σ H Q → t σ H Q) : PO X e t' := ⟨fun pins s σ H Q I q => h.run pins s σ H Q I (i σ H Q q)⟩
theorem cp_none : PO X none (yP X.kx B mNone) := po_imp po_none fun σ H Q ⟨F, ρ, ok, q⟩ => q F H (.refl ok.fh ok.dk)
theorem cp_some (h : PE X e (yB X.kx B m)) : PO X (some e) (yP X.kx B (mPart m)) := po_imp (po_some h) fun σ H Q ⟨F, ρ, ok, q⟩ => seqB ok q fun d F' H' v e1 r q1 => by
  have k := ok.step e1
  split at q1
  · cases r.int
    exact ⟨_, rfl, q1 F' H' e1⟩
  · exact q1.elim
theorem seqP {Z : Kx} {B : Bx} {F H : Hp} {σ : L2.St} {Q : Option Int → Hp → Prop} {m : Rho → R (Option Int)} {ρ : Rho} {α : Type} {g : Option Int → R α} {P : α → Prop} (ok : Ok Z B F H σ ρ) (h : ((m ρ).bind g).all P (XpE Z B F H σ))
    (k : ∀ d F' H', Ext B.dl F H F' H' → (g d).all P (XpE Z B F' H' σ) → Q d H') : yP Z B m σ H Q :=
  ⟨F, ρ, ok, R.all_imp (fun d q F' H' e => k d F' H' e (R.all_imp (fun _ z => z) (fun x z => z.step e) q)) (fun _ z => z) (R.all_bind.mp h)⟩
/-- a list's part, a new list of one's own -/
def mCutL (m : Rho → R D) (ml mh : Rho → R (Option Int)) : Rho → R (List D) := fun ρ => (m ρ).bind fun d => (ml ρ).bind fun lo => (mh ρ).bind fun hi => match d with
  | .lst xs => .ok (cutD xs lo hi)
  | _ => .stuck
theorem RpL.cut {mg : Str → Option Value} {dl : DL} {F : Hp} {ds : List D} {vs : List V} (r : RpL mg dl F ds vs) (lo hi : Option Int) : RpL mg dl F (cutD ds lo hi) (cutV vs lo hi) := by
  unfold cutD cutV
  rw [RpL.length r]
  exact RpL.take _ (RpL.drop _ r)
variable {lo hi : Option Expr} {ml mh : Rho → R (Option Int)} {p2 : Pos}
theorem co_cut (he : PE X e (yB X.kx B m)) (hl : PO X lo (yP X.kx B ml)) (hh : PO X hi (yP X.kx B mh)) : PE X (.Subscript e (.Slice lo hi none p2) pos) (yO X.kx B (mCutL m ml mh)) := pe_imp (pe_slice sl_list he hl hh) fun σ H Q ⟨F, ρ, ok, q⟩ => by
  refine seqB ok q fun d F1 H1 v e1 r q1 => ?_
  refine seqP (ok.step e1) q1 fun lo F2 H2 e2 q2 => ?_
  refine seqP ((ok.step e1).step e2) q2 fun hi F3 H3 e3 q3 => ?_
  have k := ((ok.step e1).step e2).step e3
  have e13 := (e1.trans e2).trans e3
  split at q3
  · obtain ⟨p, ws, rfl, h1, l1⟩ := ((r.step e2).step e3).lst k.fh
    refine ⟨p, ws, rfl, .inl (.inl h1), fun l hl => ?_⟩
    exact q3 _ _ l _ (e13.trans (.own k.fh k.dk hl _)) (same_none k.fh hl) (e13.new_old hl) upd_same (RpL.cut l1 lo hi)
  · exact q3.elim
/-- a tuple's or a text's part (a list's, too) -/
def mCut (m : Rho → R D) (ml mh : Rho → R (Option Int)) : Rho → R D := fun ρ => (m ρ).bind fun d => (ml ρ).bind fun lo => (mh ρ).bind fun hi => match d with
  | .lst xs => .ok (.lst (cutD xs lo hi))
  | .tup xs => .ok (.tup (cutD xs lo hi))
  | .str z => R.grd (z.length ≤ 16777216) (.ok (.str (cutS z lo hi)))
  | _ => .stuck
theorem cut_whole {α : Type} {xs : List α} {lo hi : Option Int} (h : HT.sIx xs.length 0 lo = 0 ∧ HT.sIx xs.length xs.length hi = xs.length) : cutD xs lo hi = xs := by
  unfold cutD
  rw [h.1, h.2]
  simp
theorem ce_cut (he : PE X e (yB X.kx B m)) (hl : PO X lo (yP X.kx B ml)) (hh : PO X hi (yP X.kx B mh)) : PE X (.Subscript e (.Slice lo hi none p2) pos) (yE X.kx B (mCut m ml mh)) := pe_imp (pe_slice (SlR.or sl_list (SlR.or sl_tupA sl_str)) he hl hh) fun σ H Q ⟨F, ρ, ok, q⟩ => by
  refine seqB ok q fun d F1 H1 v e1 r q1 => ?_
  refine seqP (ok.step e1) q1 fun lo F2 H2 e2 q2 => ?_
  refine seqP ((ok.step e1).step e2) q2 fun hi F3 H3 e3 q3 => ?_
  have k := ((ok.step e1).step e2).step e3
  have e13 := (e1.trans e2).trans e3
  have r3 := (r.step e2).step e3
  split at q3
  · obtain ⟨p, ws, rfl, h1, l1⟩ := r3.lst k.fh
    exact .inl ⟨p, ws, rfl, .inl (.inl h1), fin_lst k.fh k.dk (RpL.cut l1 lo hi) (PE1.step q3 e13)⟩
  · have r0 := r3
    obtain ⟨p, ws, rfl, h1, l1⟩ := r3.tup k.fh
    refine .inr (.inl ⟨p, ws, rfl, .inl (.inl h1), fun w => ?_, fun w => fin_tup k.fh k.dk (RpL.cut l1 lo hi) (PE1.step q3 e13)⟩)
    rw [RpL.length l1] at w
    rw [cut_whole w] at q3
    rcases r0 with r0 | ⟨_, _, _, w, _⟩
    · exact q3 F3 H3 _ e13 r0
    · cases w
  · obtain ⟨hl, q3⟩ := R.all_grd.mp q3
    cases r3.str
    exact .inr (.inr ⟨_, rfl, by rw [szl]; exact hl, fin_str k.fh k.dk (PE1.step q3 e13)⟩)
  · exact q3.elim
end
end Y
/-! # Y10 -/
set_option Elab.async false
set_option linter.all false
set_option maxRecDepth 100000
set_option maxHeartbeats 4000000
namespace Y
open PySem PySem.Spec L2

/-! ### lists of one's own, changed -/
def withOw (i : Nat) (f : List D → Rho → R Out) : Rho → R Out := fun ρ => match ρ[i]? with
  | some (.ow ds) => f ds ρ
  | _ => .stuck
def withSh (i : Nat) (f : D → Rho → R Out) : Rho → R Out := fun ρ => match ρ[i]? with
  | some (.sh d) => f d ρ
  | _ => .stuck
def mApp (i : Nat) (m : Rho → R D) : Rho → R Out := withOw i fun ds ρ => lift ρ (m ρ) fun d => R.grd (ds.length < 16777216) (.ok (.next (ρ.set i (.ow (ds ++ [d])))))
def mExt (i : Nat) (m : Rho → R D) : Rho → R Out := withOw i fun ds ρ => lift ρ (m ρ) fun d => match d with
  | .lst es => R.grd (ds.length + es.length ≤ 16777216) (.ok (.next (ρ.set i (.ow (ds ++ es)))))
  | _ => .stuck
def mPopS (i : Nat) : Rho → R Out := withOw i fun ds ρ => match ds[ds.length - 1]? with
  | some _ => .ok (.next (ρ.set i (.ow ds.dropLast)))
  | none => .stuck
/-- y = x.pop() -/
def mPopV (i j : Nat) : Rho → R Out := withOw i fun ds ρ => match ds[ds.length - 1]? with
  | some d => .ok (.next ((ρ.set i (.ow ds.dropLast)).set j (.sh d)))
  | none => .stuck
def mStore (i : Nat) (mv mi : Rho → R D) : Rho → R Out := withOw i fun ds ρ => lift ρ (mv ρ) fun v => lift ρ (mi ρ) fun k => match k with
  | .int j => match ixN ds.length j with
    | some n => .ok (.next (ρ.set i (.ow (ds.set n v))))
    | none => .stuck
  | _ => .stuck
def mAug (i : Nat) (f : D → D → R D) (m : Rho → R D) : Rho → R Out := withSh i fun d ρ => lift ρ (m ρ) fun y => lift ρ (f d y) fun z => .ok (.next (ρ.set i (.sh z)))
theorem RpL.dropLast {mg : Str → Option Value} {dl : DL} {F : Hp} {ds : List D} {vs : List V} (r : RpL mg dl F ds vs) : RpL mg dl F ds.dropLast vs.dropLast := by
  rw [List.dropLast_eq_take, List.dropLast_eq_take, RpL.length r]
  exact RpL.take _ r
theorem slot_ow {Z : Kx} {B : Bx} {F H : Hp} {σ : L2.St} {ρ : Rho} {i : Nat} {ds : List D} (ok : Ok Z B F H σ ρ) (e : ρ[i]? = some (.ow ds)) : ∃ a vs, σ[i]? = some (some (.ref a)) ∧ H a = some (.lst vs) ∧ RpLX Z B F ds vs := by
  obtain ⟨a, vs, ea, _, h, r⟩ := ok.sl i _ e
  exact ⟨a, vs, ea, h, r⟩
theorem ow_all {Z : Kx} {B : Bx} {F : Hp} {N : Ends} {i : Nat} {f : List D → Rho → R Out} {ρ : Rho} (h : (withOw i f ρ).all (OutOk Z B F N) (fun _ => False)) : ∃ ds, ρ[i]? = some (.ow ds) ∧ (f ds ρ).all (OutOk Z B F N) (fun _ => False) := by
  unfold withOw at h
  split at h
  · exact ⟨_, by assumption, h⟩
  · exact h.elim
theorem sh_all {Z : Kx} {B : Bx} {F : Hp} {N : Ends} {i : Nat} {f : D → Rho → R Out} {ρ : Rho} (h : (withSh i f ρ).all (OutOk Z B F N) (fun _ => False)) : ∃ d, ρ[i]? = some (.sh d) ∧ (f d ρ).all (OutOk Z B F N) (fun _ => False) := by
  unfold withSh at h
  split at h
  · exact ⟨_, by assumption, h⟩
  · exact h.elim
section
variable {X : Cx} {B : Bx} {e call : Expr} {pos : Pos} {m mv mi : Rho → R D} {te : TE}
theorem cs_app (i : Nat) (h : PE X call (tBM X.K "list" rAppend (tVar i) (tCons (yE X.kx B m) tNil))) (hs : swapsWith call none pos.line X.env = pure false := by rfl) : PS X (.Expr call pos) (yS X.kx B (mApp i m)) := ps_imp (ps_expr h hs) fun N σ H ⟨F, ρ, ok, q⟩ => by
  obtain ⟨ds, e0, q⟩ := ow_all q
  obtain ⟨a, vs, ea, h1, r1⟩ := slot_ow ok e0
  refine ⟨.ref a, ea, .inl ⟨rfl, vs, .inl (.inl h1)⟩, ?_⟩
  refine sE ok q fun d F1 H1 v e1 r q1 => ?_
  obtain ⟨hl, q1⟩ := R.all_grd.mp q1
  have k := ok.step e1
  obtain ⟨a', vs', ea', h1', r1'⟩ := slot_ow k e0
  rw [ea] at ea'
  cases ea'
  refine ⟨a, vs', v, rfl, rfl, h1', by rw [szl, RpL.length r1']; exact hl, q1 F1 _ σ (Same.refl F1) ?_⟩
  exact k.mut e0 ea (RpL.append r1' (RpL.cons r RpL.nil))
theorem cs_ext (i : Nat) (h : PE X call (tBM X.K "list" rExtend (tVar i) (tCons (yB X.kx B m) tNil))) (hs : swapsWith call none pos.line X.env = pure false := by rfl) : PS X (.Expr call pos) (yS X.kx B (mExt i m)) := ps_imp (ps_expr h hs) fun N σ H ⟨F, ρ, ok, q⟩ => by
  obtain ⟨ds, e0, q⟩ := ow_all q
  obtain ⟨a, vs, ea, h1, r1⟩ := slot_ow ok e0
  refine ⟨.ref a, ea, .inl ⟨rfl, vs, .inl (.inl h1)⟩, ?_⟩
  refine sB ok q fun d F1 H1 v e1 r q1 => ?_
  have k := ok.step e1
  split at q1
  · rename_i es
    obtain ⟨hl, q1⟩ := R.all_grd.mp q1
    obtain ⟨a', vs', ea', h1', r1'⟩ := slot_ow k e0
    rw [ea] at ea'
    cases ea'
    obtain ⟨p, ws, rfl, h2, r2⟩ := r.lst k.fh
    refine ⟨a, p, vs', ws, rfl, rfl, h1', h2, by rw [szl, RpL.length r1', RpL.length r2]; exact hl, q1 F1 _ σ (Same.refl F1) ?_⟩
    exact k.mut e0 ea (RpL.append r1' r2)
  · exact q1.elim
theorem cs_popS (i : Nat) (h : PE X call (tBM0 X.K "list" rPop (tVar i))) (hs : swapsWith call none pos.line X.env = pure false := by rfl) : PS X (.Expr call pos) (yS X.kx B (mPopS i)) := ps_imp (ps_expr h hs) fun N σ H ⟨F, ρ, ok, q⟩ => by
  obtain ⟨ds, e0, q⟩ := ow_all q
  obtain ⟨a, vs, ea, h1, r1⟩ := slot_ow ok e0
  refine ⟨.ref a, ea, .inl ⟨rfl, vs, .inl (.inl h1)⟩, ?_⟩
  split at q
  · rename_i d ed
    obtain ⟨v, ev, rv⟩ := RpL.get r1 ed
    refine ⟨a, vs, v, rfl, rfl, h1, by rw [RpL.length r1]; exact ev, q F _ σ (Same.refl F) ?_⟩
    exact ok.mut e0 ea (RpL.dropLast r1)
  · exact q.elim
theorem cs_popV (i j : Nat) {x : Str} {p' : Pos} (hN : X.N.Nodup) (h : PE X call (tBM0 X.K "list" rPop (tVar i))) (hi : X.N[j]? = some x := by rfl) (hx : Loc X.env.scope x := by first | exact Or.inl rfl | exact Or.inr rfl)
    (hs : swapsWith call (some (.Name x p')) pos.line X.env = pure false := by rfl) (hf : X.fn x = true ∨ X.env.scope.names.lookup x = some .local := by first | exact .inl rfl | exact .inr rfl) : PS X (.Assign [.Name x p'] call pos) (yS X.kx B (mPopV i j)) := ps_imp (ps_set hN hi hx h hs hf) fun N σ H ⟨F, ρ, ok, q⟩ => by
  obtain ⟨ds, e0, q⟩ := ow_all q
  obtain ⟨a, vs, ea, h1, r1⟩ := slot_ow ok e0
  refine ⟨.ref a, ea, .inl ⟨rfl, vs, .inl (.inl h1)⟩, ?_⟩
  split at q
  · rename_i d ed
    obtain ⟨v, ev, rv⟩ := RpL.get r1 ed
    refine ⟨a, vs, v, rfl, rfl, h1, by rw [RpL.length r1]; exact ev, q F _ _ (Same.refl F) ?_⟩
    exact (ok.mut e0 ea (RpL.dropLast r1)).sh rv j
  · exact q.elim
theorem cs_store (i : Nat) {o ix : Expr} {ps : Pos} (he : PE X e (yE X.kx B mv)) (ho : PE X o (tVar i)) (hi : PE X ix (yB X.kx B mi))
    (ha : ∀ v, assign (.Subscript o ix ps) X.env v = (do
      let ov ← holding [v] (eval o X.env)
      let iv ← holding [v, ov] (eval ix X.env)
      standAt ps
      holding [v, ov, iv] (setItem ov iv v)
      release [v, ov, iv] []) := by intro _; rfl)
    (hs : swapsWithSole [.Subscript o ix ps] e pos.line X.env = pure false := by rfl) (hw : swappedStores [.Subscript o ix ps] e X.env = pure none := by rfl)
    (h1 : (assignEach [.Subscript o ix ps] X.env).map (·.2) = [assign (.Subscript o ix ps) X.env] := by rfl) : PS X (.Assign [.Subscript o ix ps] e pos) (yS X.kx B (mStore i mv mi)) := ps_imp (ps_asg he (pg_sub ho hi set_list ha) hs hw h1) fun N σ H ⟨F, ρ, ok, q⟩ => by
  obtain ⟨ds, e0, q⟩ := ow_all q
  refine sE ok q fun d F1 H1 v e1 r q1 => ?_
  have k := ok.step e1
  obtain ⟨a, vs, ea, h1, r1⟩ := slot_ow k e0
  refine ⟨.ref a, ea, ?_⟩
  refine sB k q1 fun w F2 H2 v2 e2 r2 q2 => ?_
  have k2 := k.step e2
  split at q2
  · rename_i j
    split at q2
    · rename_i n en
      cases r2.int
      obtain ⟨a', vs', ea', h1', r1'⟩ := slot_ow k2 e0
      rw [ea] at ea'
      cases ea'
      refine ⟨a, vs', j, n, rfl, rfl, h1', by rw [RpL.length r1']; exact en, q2 F2 _ σ (Same.refl F2) ?_⟩
      exact k2.mut e0 ea (RpL.set (Rp.mono e2.ff _ _ r) n r1')
    · exact q2.elim
  · exact q2.elim
def dIAdd : D → D → R D
  | .int i, .int j => .ok (.int (i + j))
  | _, _ => .stuck
def dIMul : D → D → R D
  | .int i, .int j => R.grd (small64 i ∨ small64 j) (.ok (.int (i * j)))
  | _, _ => .stuck
def dIDiv : D → D → R D
  | .int i, .int j => R.grd (0 < j ∧ j < 1073741824) (.ok (.int (i / j)))
  | _, _ => .stuck
theorem opd_iadd : OpD X.kx B (rI0 fun i j => .int (i + j)) dIAdd := fun x y v1 v2 F H Q E s k r1 r2 q => by
  unfold dIAdd at q
  split at q
  · cases r1.int; cases r2.int
    exact ⟨_, _, rfl, rfl, fin_int s k q⟩
  · exact q.elim
theorem opd_imul : OpD X.kx B (rI CMul fun i j => .int (i * j)) dIMul := fun x y v1 v2 F H Q E s k r1 r2 q => by
  unfold dIMul at q
  split at q
  · obtain ⟨hl, q⟩ := R.all_grd.mp q
    cases r1.int; cases r2.int
    exact ⟨_, _, rfl, rfl, hl, fin_int s k q⟩
  · exact q.elim
theorem opd_idiv : OpD X.kx B (rI CDiv fun i j => .int (i / j)) dIDiv := fun x y v1 v2 F H Q E s k r1 r2 q => by
  unfold dIDiv at q
  split at q
  · obtain ⟨hl, q⟩ := R.all_grd.mp q
    cases r1.int; cases r2.int
    exact ⟨_, _, rfl, rfl, hl, fin_int s k q⟩
  · exact q.elim
/-- what an operator in place gives, by data -/
theorem cs_aug (i : Nat) {x : Str} {p' : Pos} {op : Operator} {r : R2} {f : D → D → R D} (hN : X.N.Nodup) (ho : OpR X (inplaceOp op) r) (hf : OpD X.kx B r f) (he : PE X e (yB X.kx B m)) (hi : X.N[i]? = some x := by rfl) (hx : Loc X.env.scope x := by first | exact Or.inl rfl | exact Or.inr rfl)
    (hfn : X.fn x = true ∨ X.env.scope.names.lookup x = some .local := by first | exact .inl rfl | exact .inr rfl) : PS X (.AugAssign (.Name x p') op e pos) (yS X.kx B (mAug i f m)) := ps_imp (ps_aug hN hi hx he ho hfn) fun N σ H ⟨F, ρ, ok, q⟩ => by
  obtain ⟨d, e0, q⟩ := sh_all q
  obtain ⟨v, ev, rv⟩ := ok.sl i _ e0
  refine ⟨v, ev, ?_⟩
  refine sB ok q fun y F1 H1 w e1 r1 q1 => ?_
  have k := ok.step e1
  refine hf d y v w F1 H1 _ _ k.fh k.dk (.inl (Rp.mono e1.ff _ _ rv)) r1 (R.all_imp (fun z hz => ?_) (fun _ z => z) (R.all_bx.mp q1))
  intro F2 H2 u e2 r2
  exact hz F2 H2 _ e2.ff ((k.step e2).sh r2 i)
theorem cs_iadd (i : Nat) {x : Str} {p' : Pos} (hN : X.N.Nodup) (he : PE X e (yB X.kx B m)) (hi : X.N[i]? = some x := by rfl) (hx : Loc X.env.scope x := by first | exact Or.inl rfl | exact Or.inr rfl) (hfn : X.fn x = true ∨ X.env.scope.names.lookup x = some .local := by first | exact .inl rfl | exact .inr rfl) :
    PS X (.AugAssign (.Name x p') .Add e pos) (yS X.kx B (mAug i dIAdd m)) := cs_aug i hN iop_add opd_iadd he hi hx hfn
theorem cs_isub (i : Nat) {x : Str} {p' : Pos} (hN : X.N.Nodup) (he : PE X e (yB X.kx B m)) (hi : X.N[i]? = some x := by rfl) (hx : Loc X.env.scope x := by first | exact Or.inl rfl | exact Or.inr rfl) (hfn : X.fn x = true ∨ X.env.scope.names.lookup x = some .local := by first | exact .inl rfl | exact .inr rfl) :
    PS X (.AugAssign (.Name x p') .Sub e pos) (yS X.kx B (mAug i dSub m)) := cs_aug i hN iop_sub opd_sub he hi hx hfn
theorem cs_imul (i : Nat) {x : Str} {p' : Pos} (hN : X.N.Nodup) (he : PE X e (yB X.kx B m)) (hi : X.N[i]? = some x := by rfl) (hx : Loc X.env.scope x := by first | exact Or.inl rfl | exact Or.inr rfl) (hfn : X.fn x = true ∨ X.env.scope.names.lookup x = some .local := by first | exact .inl rfl | exact .inr rfl) :
    PS X (.AugAssign (.Name x p') .Mult e pos) (yS X.kx B (mAug i dIMul m)) := cs_aug i hN iop_mul opd_imul he hi hx hfn
theorem cs_idiv (i : Nat) {x : Str} {p' : Pos} (hN : X.N.Nodup) (he : PE X e (yB X.kx B m)) (hi : X.N[i]? = some x := by rfl) (hx : Loc X.env.scope x := by first | exact Or.inl rfl | exact Or.inr rfl) (hfn : X.fn x = true ∨ X.env.scope.names.lookup x = some .local := by first | exact .inl rfl | exact .inr rfl) :
    PS X (.AugAssign (.Name x p') .FloorDiv e pos) (yS X.kx B (mAug i dIDiv m)) := cs_aug i hN iop_fdiv opd_idiv he hi hx hfn
theorem cs_imod (i : Nat) {x : Str} {p' : Pos} (hN : X.N.Nodup) (he : PE X e (yB X.kx B m)) (hi : X.N[i]? = some x := by rfl) (hx : Loc X.env.scope x := by first | exact Or.inl rfl | exact Or.inr rfl) (hfn : X.fn x = true ∨ X.env.scope.names.lookup x = some .local := by first | exact .inl rfl | exact .inr rfl) :
    PS X (.AugAssign (.Name x p') .Mod e pos) (yS X.kx B (mAug i dMod m)) := cs_aug i hN iop_mod opd_mod he hi hx hfn
/-- a, b = e: the target is stored by its parts -/
def mAsg (b : Bnd) (m : Rho → R D) : Rho → R Out := fun ρ => lift ρ (m ρ) fun d => match b d ρ with
  | some ρ' => .ok (.next ρ')
  | none => .stuck
theorem cs_asg {tg : Expr} {b : Bnd} {ws : List Nat} (he : PE X e (yE X.kx B m)) (hg : PG X tg (yG X.kx B ws b)) (hs : swapsWithSole [tg] e pos.line X.env = pure false := by rfl) (hw : swappedStores [tg] e X.env = pure none := by rfl)
    (h1 : (assignEach [tg] X.env).map (·.2) = [assign tg X.env] := by rfl) : PS X (.Assign [tg] e pos) (yS X.kx B (mAsg b m)) := ps_imp (ps_asg he hg hs hw h1) fun N σ H ⟨F, ρ, ok, q⟩ => sE ok q fun d F1 H1 v e1 r q1 => by
  have k := ok.step e1
  split at q1
  · rename_i ρ' eb
    exact ⟨F1, ρ, d, ρ', k, r, eb, fun σ' k' _ => q1 F1 H1 σ' (Same.refl F1) k'⟩
  · exact q1.elim
end
end Y
/-! # Y11 -/
set_option Elab.async false
set_option linter.all false
set_option maxRecDepth 100000
set_option maxHeartbeats 4000000
namespace Y
open PySem PySem.Spec L2

/-! ### enumerate of a tuple -/
set_option maxHeartbeats 1000000 in
theorem meets_enum1 {v : Value} {o : Obj} {W : Heap → Prop} (G : Begins v o W) :
    Meets (Builtin.«enumerate.__new__» ⟨[.type "enumerate", v], []⟩) (fun _ T s => W s.heap ∧
      T (.ok (.ret (.ref (s.heap.push o).objs.size))) { s with heap := (s.heap.push o).push { cls := .type "enumerate", data := .fields #[.none, .bool false, .ref s.heap.objs.size, rawInt 0, .none, .none] } }) :=
  .of_wp fun prog w A T s h => by
    obtain ⟨hp, g, d, tk, os⟩ := s
    obtain ⟨hw, h⟩ := h
    have es := sub_enumerate
    have st : ∀ {A1 : Around} {E1 : Value → Shared → Prop} {Q1 : Value → Shared → Prop}, Q1 (.ref hp.objs.size) ⟨hp.push o, g, d, tk, os⟩ → wpAny (model prog w) A1 (pyIter v) Q1 E1 ⟨hp, g, d, tk, os⟩ :=
      fun z => G.iter prog w _ _ ⟨hp, g, d, tk, os⟩ _ hw z
    wp_walk using st
    refine wpAny_stack_any fun z => wpAny_pure ?_
    split
    · rename_i cc _ _ _ _ _
      cases (cc == Value.type "enumerate") <;> (wp_walk using st; exact ⟨_, rfl, h⟩)
    · wp_walk using st
      exact ⟨_, rfl, h⟩
section
variable {prog : Program} {w : World} {A : Around} {E : Value → Shared → Prop} {s : Shared}
/-- enumerate(v): its two new cells -/
theorem enum_begins1 {v : Value} {o : Obj} {W : Heap → Prop} {Q : Value → Shared → Prop} (G : Begins v o W) (hw : W s.heap)
    (h : ∀ h', IsEnum h' (s.heap.objs.size + 1) s.heap.objs.size 0 .none → h'.get? s.heap.objs.size = some o → (∀ b o, s.heap.get? b = some o → h'.get? b = some o) → Q (.ref (s.heap.objs.size + 1)) { s with heap := h' }) :
    wpAny (model prog w) A (call (.type "enumerate") [v]) Q E s := by
  refine callType_new F.called_enumerate (by decide) (F.typeCall_enumerate_1 _) (F.newCall_enumerate_1 _) (fun obj => F.args_object_init_2 obj _) F.entry_enumerate_new (meets_enum1 G) ⟨hw, ?_⟩
  have ez : (s.heap.push o).objs.size = s.heap.objs.size + 1 := Heap.size_push ..
  show _ ∧ _
  rw [ez]
  have ie : IsEnum ((s.heap.push o).push { cls := .type "enumerate", data := .fields #[.none, .bool false, .ref s.heap.objs.size, rawInt 0, .none, .none] }) (s.heap.objs.size + 1) s.heap.objs.size 0 .none := by
    have q := Heap.get?_push_size (s.heap.push o) (o := { cls := .type "enumerate", data := .fields #[.none, .bool false, .ref s.heap.objs.size, rawInt 0, .none, .none] }) rfl
    rw [ez] at q
    exact q
  exact ⟨⟨_, ie, rfl⟩, h _ ie (Heap.get?_push_of_some _ (Heap.get?_push_size _ G.free)) fun b o x => Heap.get?_push_of_some _ (Heap.get?_push_of_some _ x)⟩
end
/-- the tuple at a, each item in a new pair with its number -/
def IteT (a : Addr) : It :=
  ⟨fun i H => ∃ (xs : List V) (x : V), H a = some (.tup xs) ∧ xs[i]? = some x, fun i H v H' => ∃ T x, v = .ref T ∧ H T = none ∧ H' = upd H T (.tup [.int (i : Nat), x]) ∧ ∀ xs, H a = some (.tup xs) → xs[i]? = some x, fun i H => ∃ xs : List V, H a = some (.tup xs) ∧ xs.length = i⟩
theorem turn_enumT {P : Program} {w : World} {K : PySem.W.Frag} {elts : List Expr} {kk : Nat} {tpos : Pos} (a e it : Addr) :
    Turn P w K (.Tuple elts kk tpos) (IteT a) [e, it] e (fun i h => (∃ old, IsEnum h e it ((i : Nat) : Int) old) ∧ h.IsTupleIter it a i ∧ e ≠ it) where
  mem := List.mem_cons_self ..
  obj := fun i h st b hb => by
    obtain ⟨⟨old, he⟩, ⟨o, ho, hc, hd⟩, _⟩ := st
    rcases List.mem_cons.mp hb with z | z
    · rw [z]; exact ⟨_, he, fun v q => nomatch q⟩
    · rw [List.mem_singleton.mp z]; exact ⟨o, ho, fun v q => by rw [hd] at q; cases q⟩
  keep := fun i h h' st k => by
    obtain ⟨⟨old, he⟩, hi, ne⟩ := st
    exact ⟨⟨old, k e (List.mem_cons_self ..) _ he⟩, hi.at fun o q => k it (by simp) o q, ne⟩
  item := by
    intro X hP hw hK hc i pins s σ H E I hf st hg
    subst hP hw hK
    obtain ⟨⟨old, he⟩, hit, ne⟩ := st
    obtain ⟨xs, x, hq, hx⟩ := hg
    obtain ⟨its, rv, p, hz⟩ := I.tuple (.inl (.inl hq))
    obtain ⟨u, hu, ru⟩ := rv.get hx
    have hlt : i < its.length := by
      obtain ⟨z, _⟩ := List.getElem?_eq_some_iff.mp hu
      exact z
    have ea : ∀ b ∈ [e, it], a ≠ b := fun b hb z => by
      have := (hf b hb).1
      rw [← z, hq] at this
      cases this
    have el : e < s.heap.objs.size := Heap.lt_size he
    have il : it < s.heap.objs.size := by obtain ⟨_, q, _⟩ := hit; exact Heap.lt_size q
    have hh : X.A.in1.handled = none := I.ok.hd hc
    refine wpAny_pyNext_enum_itemD (Draws.tuple hh it a (ea it (by simp)) its.toArray) he ⟨hit, p⟩ (by simpa using hlt) ne (by
      intro z
      rcases List.mem_cons.mp z with z | z
      · exact ne z
      · exact ea e (List.mem_cons_self ..) (List.mem_singleton.mp z).symm) fun u2 h' tk hu2 ho st' hT hsz hk => ?_
    have e2 : u2 = u := by
      have : its.toArray[i]? = some u2 := hu2
      rw [List.getElem?_toArray, hu] at this
      exact (Option.some.inj this).symm
    subst e2
    refine ⟨_, rfl, wpAny_letOwnedTupleGo_enum (s := { s with heap := h', toks := tk + 1 }) ho fun h'' he' sb => ?_⟩
    have hT2 : h''.get? s.heap.objs.size = some { cls := .type "tuple", data := .seq #[.int i tk, u2] } := (sb.2 _ (Nat.ne_of_gt el)).trans hT
    have new : ObjOk X.prog X.w (upd H s.heap.objs.size (.tup [.int (i : Nat), x])) h'' s.heap.objs.size (.tup [.int (i : Nat), x]) :=
      ⟨by show 2 ≤ sizeLine; decide, [.int i tk, u2], .cons ⟨_, rfl⟩ (.cons ru .nil), ⟨_, hT2, rfl, _, rfl⟩⟩
    have I1 : Inv X pins σ (upd H s.heap.objs.size (.tup [.int (i : Nat), x])) { s with heap := h'', toks := tk + 1 } :=
      I.turnedNew (ch := [e, it]) (fun b ob hb q => (sb.2 b (fun z => hb (by simp [z]))).trans (hk b ob (fun z => hb (by simp [z])) (fun z => hb (by simp [z])) q)) hf (Nat.le_refl _) new
    refine ⟨.ref s.heap.objs.size, _, I1, rfl, ⟨_, x, rfl, I.hok.fresh (Nat.le_refl _), rfl, fun ys hy => by rw [hq] at hy; cases hy; exact hx⟩, ⟨⟨u2, ?_⟩, st'.1.at fun o q => (sb.2 it (Ne.symm ne)).trans q, ne⟩, fun b hb => ?_⟩
    · have e1 : ((i + 1 : Nat) : Int) = (i : Int) + 1 := by omega
      rw [e1]; exact he'
    · have bl : b < s.heap.objs.size := by
        rcases List.mem_cons.mp hb with z | z
        · rw [z]; exact el
        · rw [List.mem_singleton.mp z]; exact il
      rw [upd_ne (Nat.ne_of_lt bl)]
      exact (hf b hb).1
  done := by
    intro X hP hw hK hc i pins s σ H E I hf st hg
    subst hP hw hK
    obtain ⟨⟨old, he⟩, hit, ne⟩ := st
    obtain ⟨xs, hq, hx⟩ := hg
    obtain ⟨its, rv, p, hz⟩ := I.tuple (.inl (.inl hq))
    obtain ⟨f0, f1, f2, f3, f4, f5⟩ := hf it (by simp)
    have hl := rv.length
    have hh : X.A.in1.handled = none := I.ok.hd hc
    have nea : a ≠ it := fun z => by rw [← z, hq] at f0; cases f0
    have en : i = its.toArray.size := by
      rw [List.size_toArray]
      omega
    subst en
    exact wpAny_pyNext_enum_endD (Draws.tuple hh it a nea its.toArray) he ⟨hit, p⟩ fun h' eb => ⟨rfl, I.turned (t' := s.toks) (fun b o hb q => eb b o hb q) f0 f1 f3 f4 f5⟩
  self := fun A i s Q E st h => by
    obtain ⟨⟨_, he⟩, _⟩ := st
    exact wpAny_pyIter_enum he h
/-! ### enumerate, several targets at once, ranges by steps -/
section
variable {X : Cx} {B : Bx} {e tg : Expr} {m : Rho → R D} {F : Hp}
def enumD (ds : List D) : List D := ds.zipIdx.map fun p => .tup [.int (p.2 : Nat), p.1]
theorem enumD_len (ds : List D) : (enumD ds).length = ds.length := by simp [enumD]
theorem enumD_get {ds : List D} {i : Nat} {d : D} (h : (enumD ds)[i]? = some d) : ∃ x, ds[i]? = some x ∧ d = .tup [.int (i : Nat), x] := by
  unfold enumD at h
  rw [List.getElem?_map, List.getElem?_zipIdx] at h
  cases q : ds[i]? with
  | none => rw [q] at h; cases h
  | some x =>
    rw [q] at h
    simp at h
    exact ⟨x, rfl, h.symm⟩
theorem pair_new {Z : Kx} {B : Bx} {F1 H1 : Hp} {T : Addr} {i : Int} {v : V} {x : D} (s : Same F1 H1) (k : DealOk B.dl H1) (nT : H1 T = none) (r : RpX Z B F1 x v) : ∃ F2, Ext B.dl F1 H1 F2 (upd H1 T (.tup [.int i, v])) ∧ RpX Z B F2 (.tup [.int i, x]) (.ref T) :=
  ⟨_, .lay s k nT _, Rp.tup upd_same (RpL.cons (Rp.int i) (RpL.cons (Rp.mono (same_upd (same_none s nT)) _ _ r) RpL.nil))⟩
theorem wk_enumL {a : Addr} {vs : List V} {ds : List D} (h : F a = some (.lst vs)) (r : RpLX X.kx B F ds vs) : Wk X.kx B (Ite X.K a) (enumD ds) F where
  go := fun F1 H1 i s1 s2 hi => by
    rw [enumD_len, ← RpL.length r] at hi
    exact ⟨vs, vs[i], .inl (.inl (s2 _ _ (s1 _ _ h))), by simp [hi]⟩
  stop := fun F1 H1 s1 s2 => ⟨vs, .inl (.inl (s2 _ _ (s1 _ _ h))), by rw [enumD_len, RpL.length r]; exact Nat.le_refl _⟩
  yld := fun F1 H1 i x H2 d s1 s2 k hd y => by
    obtain ⟨z, ez, rfl⟩ := enumD_get hd
    obtain ⟨v, e, q⟩ := RpL.get r ez
    obtain ⟨T, u, rfl, nT, rfl, y⟩ := y
    have e2 := y vs (.inl (.inl (s2 _ _ (s1 _ _ h))))
    rw [e] at e2
    cases e2
    exact pair_new s2 k nT (Rp.mono s1 _ _ q)
theorem wk_enumT {a : Addr} {vs : List V} {ds : List D} (h : F a = some (.tup vs)) (r : RpLX X.kx B F ds vs) : Wk X.kx B (IteT a) (enumD ds) F where
  go := fun F1 H1 i s1 s2 hi => by
    rw [enumD_len, ← RpL.length r] at hi
    exact ⟨vs, vs[i], s2 _ _ (s1 _ _ h), by simp [hi]⟩
  stop := fun F1 H1 s1 s2 => ⟨vs, s2 _ _ (s1 _ _ h), by rw [enumD_len, RpL.length r]⟩
  yld := fun F1 H1 i x H2 d s1 s2 k hd y => by
    obtain ⟨z, ez, rfl⟩ := enumD_get hd
    obtain ⟨v, e, q⟩ := RpL.get r ez
    obtain ⟨T, u, rfl, nT, rfl, y⟩ := y
    have e2 := y vs (s2 _ _ (s1 _ _ h))
    rw [e] at e2
    cases e2
    exact pair_new s2 k nT (Rp.mono s1 _ _ q)
theorem boot_enum : bootBuiltins "enumerate" = some (.type "enumerate") := by decide +kernel
/-- enumerate of a list or a tuple, told by itself -/
theorem pi_enumB {ta : TA} {p pos tpos : Pos} {elts : List Expr} {kk : Nat} (hg : Gl X "enumerate") (hm : X.mg "enumerate" = none) (ha : PA X [e] ta) (hs : starEach [e] X.env = [(false, eval e X.env)]) :
    PI X (.Tuple elts kk tpos) (.Call (.Name "enumerate" p) [e] [] pos) (fun σ H T => ta σ H fun vs H1 => ∃ a, vs = [.ref a] ∧ ((∃ xs, H1 a = some (.lst xs)) ∧ T (Ite X.K a) H1 ∨ (∃ xs, H1 a = some (.tup xs)) ∧ T (IteT a) H1)) := by
  refine ⟨fun pins s σ H T I h => ?_⟩
  refine PyProof.Rows.Call_ (ld_blt I hg hm boot_enum (PyProof.Rows.callWith_type1 (thn (ha.run pos pins s σ H _ I h) fun us s1 ⟨vs, H1, I1, r1, q1⟩ => ?_) hs rfl))
  obtain ⟨a, ex, q⟩ := q1
  subst ex
  obtain ⟨u, rfl, ru⟩ := Vals.one r1
  obtain rfl : u = Value.ref a := ru
  have two : ∀ b ∈ [s1.heap.objs.size + 1, s1.heap.objs.size], s1.heap.objs.size ≤ b := fun b hb => by
    rcases List.mem_cons.mp hb with z | z
    · rw [z]; exact Nat.le_add_right _ _
    · rw [List.mem_singleton.mp z]; exact Nat.le_refl _
  rcases q with ⟨⟨xs, hq⟩, q⟩ | ⟨⟨xs, hq⟩, q⟩
  · obtain ⟨its, rv, p', hz⟩ := I1.list (.inl (.inl hq))
    refine enum_begins1 (begins_list a its.toArray) p'.isList fun h' he hit hk => wpAny_pyIter_enum he ?_
    exact ⟨s1.heap.objs.size + 1, [s1.heap.objs.size + 1, s1.heap.objs.size], _, _, H1, rfl, I1.kept (t' := s1.toks) hk, turn_enum a (s1.heap.objs.size + 1) s1.heap.objs.size, ⟨⟨.none, he⟩, ⟨_, hit, rfl, rfl⟩, Nat.succ_ne_self _⟩,
      fun b hb => I1.fpOk (two b hb) (I1.hok.fresh (two b hb)), q⟩
  · obtain ⟨its, rv, p', hz⟩ := I1.tuple (.inl (.inl hq))
    refine enum_begins1 (begins_tuple a its.toArray) p' fun h' he hit hk => wpAny_pyIter_enum he ?_
    exact ⟨s1.heap.objs.size + 1, [s1.heap.objs.size + 1, s1.heap.objs.size], _, _, H1, rfl, I1.kept (t' := s1.toks) hk, turn_enumT a (s1.heap.objs.size + 1) s1.heap.objs.size, ⟨⟨.none, he⟩, ⟨_, hit, rfl, rfl⟩, Nat.succ_ne_self _⟩,
      fun b hb => I1.fpOk (two b hb) (I1.hok.fresh (two b hb)), q⟩
def dEnum : List D → R (List D)
  | [.lst ds] => .ok (enumD ds)
  | [.tup ds] => .ok (enumD ds)
  | _ => .stuck
theorem ci_enum {p pos tpos : Pos} {elts : List Expr} {kk : Nat} {ma : Rho → R (List D)} (hm : X.mg "enumerate" = none) (ha : PA X [e] (yA X.kx B ma)) (hg : Gl X "enumerate" := by rfl) (hs : starEach [e] X.env = [(false, eval e X.env)] := by rfl) :
    PI X (.Tuple elts kk tpos) (.Call (.Name "enumerate" p) [e] [] pos) (yI X.kx B (mArgs dEnum ma)) := pi_imp (pi_enumB hg hm ha hs) fun σ H T ⟨F, ρ, ok, q⟩ => seqA ok q fun ds F' H' vs e1 r q1 => by
  have k := ok.step e1
  unfold dEnum at q1
  split at q1
  · unfold RpLX RpL at r
    obtain ⟨v, r', rfl, r1, r2⟩ := r
    unfold RpL at r2
    unfold Rp at r1
    obtain ⟨a, ws, rfl, h1, l1⟩ := r1
    subst r2
    exact ⟨a, rfl, .inl ⟨⟨ws, k.fh _ _ h1⟩, q1 F' H' _ e1 (wk_enumL h1 l1)⟩⟩
  · unfold RpLX RpL at r
    obtain ⟨v, r', rfl, r1, r2⟩ := r
    unfold RpL at r2
    unfold Rp at r1
    obtain ⟨a, ws, rfl, h1, l1⟩ := r1
    subst r2
    exact ⟨a, rfl, .inr ⟨⟨ws, k.fh _ _ h1⟩, q1 F' H' _ e1 (wk_enumT h1 l1)⟩⟩
  · exact q1.elim
/-! range(i, j, c) -/
def dRange3 : List D → R (List D)
  | [.int i, .int j, .int c] => R.grd (big i ∧ big j ∧ c = -1) (.ok (rangeD i (i - j).toNat c))
  | _ => .stuck
theorem ci_range3 {a b c : Expr} {p pos : Pos} {ma : Rho → R (List D)} (hm : X.mg "range" = none) (ha : PA X [a, b, c] (yA X.kx B ma)) (hg : Gl X "range" := by rfl) (hs : starEach [a, b, c] X.env = (false, eval a X.env) :: starEach [b, c] X.env := by rfl) (hpl : (backTo pos (starEach [b, c] X.env)).any (·.1) = false := by rfl) :
    PI X tg (.Call (.Name "range" p) [a, b, c] [] pos) (yI X.kx B (mArgs dRange3 ma)) := pi_imp (pi_range3 hg hm ha hs hpl) fun σ H T ⟨F, ρ, ok, q⟩ => seqA ok q fun ds F' H' vs e1 r q1 => by
  unfold dRange3 at q1
  split at q1
  · rename_i i j c
    obtain ⟨⟨h1, h2, h3⟩, q1⟩ := R.all_grd.mp q1
    subst h3
    unfold RpLX RpL at r
    obtain ⟨v, r', rfl, r1, r2⟩ := r
    unfold RpL at r2
    obtain ⟨v2, r3, rfl, r4, r5⟩ := r2
    unfold RpL at r5
    obtain ⟨v3, r6, rfl, r7, r8⟩ := r5
    unfold RpL at r8
    unfold Rp at r1 r4 r7
    subst r1 r4 r7 r8
    exact ⟨i, j, -1, _, rfl, RgC.neg h1.1 h1.2 h2.1 h2.2, q1 F' H' _ e1 wk_rangeC⟩
  · exact q1.elim
/-! reversed(list), reversed(tuple) -/
theorem wk_revL {a : Addr} {vs : List V} {ds : List D} (h : F a = some (.lst vs)) (r : RpLX X.kx B F ds vs) : Wk X.kx B (Itv X.K a vs.length) ds.reverse F where
  go := fun F1 H1 i s1 s2 hi => by
    rw [List.length_reverse, ← RpL.length r] at hi
    exact ⟨hi, vs, vs[vs.length - 1 - i]'(by omega), .inl (.inl (s2 _ _ (s1 _ _ h))), by simp [show vs.length - 1 - i < vs.length by omega]⟩
  stop := fun F1 H1 s1 s2 => by
    show vs.length ≤ _
    rw [List.length_reverse, RpL.length r]
    exact Nat.le_refl _
  yld := fun F1 H1 i x H2 d s1 s2 k hd y => by
    obtain ⟨rfl, y⟩ := y
    have e2 := y vs (.inl (.inl (s2 _ _ (s1 _ _ h))))
    obtain ⟨v, e, q⟩ := RpL.get (RpL.reverse r) hd
    have hi : i < vs.length := by
      obtain ⟨z, _⟩ := List.getElem?_eq_some_iff.mp e
      rw [List.length_reverse] at z
      exact z
    rw [List.getElem?_reverse hi, e2] at e
    cases e
    exact ⟨F1, .refl s2 k, Rp.mono s1 _ _ q⟩
end
end Y
/-! # Y12 -/
set_option Elab.async false
set_option linter.all false
set_option maxRecDepth 100000
set_option maxHeartbeats 4000000
namespace Y
open PySem PySem.Spec L2

/-! ### repr -/
mutual
theorem noDict : ∀ d : D, d.py.hasDict = false
  | .non => rfl
  | .bl _ => rfl
  | .int _ => rfl
  | .str _ => rfl
  | .tup ds => by unfold D.py PyData.hasDict; exact noDictL ds
  | .lst ds => by unfold D.py PyData.hasDict; exact noDictL ds
  | .obj _ _ => rfl
  | .deal => rfl
theorem noDictL : ∀ ds : List D, PyData.hasDictAll (D.pyL ds) = false
  | [] => rfl
  | d :: ds => by unfold D.pyL PyData.hasDictAll; rw [noDict d, noDictL ds]; rfl
end
def repOk (d : D) : Bool := d.plain && d.py.showable && decide (d.py.depth ≤ 60) && decide (d.py.shown.length ≤ 16777216)
def dRepr : List D → R D
  | [d] => R.grd (repOk d = true) (.ok (.str d.py.shown))
  | _ => .stuck
section
variable {X : Cx} {B : Bx}
theorem call_reprD (hr : RG k X.A) : CallR X (.builtin "repr") (fun xs H Q => ∃ x d, xs = [x] ∧ Dp X.K H x d ∧ d.showable = true ∧ d.hasDict = false ∧ d.depth ≤ 60 ∧ d.shown.length ≤ 16777216 ∧ Q (.str d.shown) H) := by
  intro pins s σ H xs us Q I rx h
  obtain ⟨x, d, rfl, hd, hs, hn, hdp, hl, q⟩ := h
  obtain ⟨u, rfl, ru⟩ := Vals.one rx
  have hu := hr.room.units
  cases hd with
  | non =>
    obtain rfl : u = Value.none := ru
    exact PySem.P.repr_of_none ⟨.str (PyData.shown .none), H, I.tok _, ⟨_, rfl⟩, q⟩
  | bl b =>
    obtain rfl : u = Value.bool b := ru
    exact PySem.P.repr_of_bool ⟨.str (PyData.shown (.bool b)), H, I.tok _, ⟨_, by cases b <;> rfl⟩, q⟩
  | int i =>
    obtain ⟨t, rfl⟩ := ru
    unfold PyData.showable at hs
    exact PySem.P.repr_of_int (of_decide_eq_true hs) ⟨.str (PyData.shown (.int i)), H, I.tok _, ⟨_, rfl⟩, q⟩
  | str z =>
    obtain ⟨t, rfl⟩ := ru
    exact PySem.P.repr_of_str ⟨.str (PyData.shown (.str z)), H, I.tok _, ⟨_, rfl⟩, q⟩ (by rw [szl]; exact hl)
  | lst hq ha =>
    rename_i a vs ds
    obtain ⟨as, rd⟩ := Dp.reads I _ _ _ (.lst hq ha) ru
    obtain rfl : u = Value.ref a := ru
    exact repr_of_reads' rd hs (fun e => by rw [hn] at e; cases e) hr.grd (by omega) (fun _ _ z => z) (fun h' w tk hk => ⟨.str _, H, I.kept hk, ⟨_, rfl⟩, q⟩) (by rw [szl]; exact hl)
  | tup hq ha =>
    rename_i a vs ds
    obtain ⟨as, rd⟩ := Dp.reads I _ _ _ (.tup hq ha) ru
    obtain rfl : u = Value.ref a := ru
    exact repr_of_reads' rd hs (fun e => by rw [hn] at e; cases e) hr.grd (by omega) (fun _ _ z => z) (fun h' w tk hk => ⟨.str _, H, I.kept hk, ⟨_, rfl⟩, q⟩) (by rw [szl]; exact hl)
theorem cd_repr : CallD X.kx B (fun xs H Q => ∃ x d, xs = [x] ∧ Dp X.K H x d ∧ d.showable = true ∧ d.hasDict = false ∧ d.depth ≤ 60 ∧ d.shown.length ≤ 16777216 ∧ Q (.str d.shown) H) dRepr := fun ds vs F H Q E s k r q => by
  unfold dRepr at q
  split at q
  · rename_i d
    obtain ⟨hc, q⟩ := R.all_grd.mp q
    unfold repOk at hc
    rw [Bool.and_eq_true, Bool.and_eq_true, Bool.and_eq_true] at hc
    obtain ⟨⟨⟨h1, h2⟩, h3⟩, h4⟩ := hc
    obtain ⟨v, rfl, r1⟩ := one_arg r
    exact ⟨v, d.py, rfl, dpB s h1 r1, h2, noDict d, of_decide_eq_true h3, of_decide_eq_true h4, fin_str s k q⟩
  · exact q.elim
theorem ce_repr {k : Nat} {e : Expr} {es : List Expr} {p pos : Pos} {mr : Rho → R (List D)} (hr : RG k X.A) (ha : PA X (e :: es) (yAB X.kx B mr)) (hm : X.mg "repr" = none) (hg : Gl X "repr" := by rfl) (he : starEach (e :: es) X.env = (false, eval e X.env) :: starEach es X.env := by rfl) (hpl : (backTo pos (starEach es X.env)).any (·.1) = false := by rfl) :
    PE X (.Call (.Name "repr" p) (e :: es) [] pos) (yE X.kx B (mBi dRepr mr)) := ce_bi (call_reprD hr) cd_repr hm (by decide +kernel) ha hg (by decide) (by decide) he hpl
end
end Y
/-! # Y13 -/
set_option Elab.async false
set_option linter.all false
set_option maxRecDepth 100000
set_option maxHeartbeats 4000000
namespace Y
open PySem PySem.Spec L2

/-! ### several names at once -/
/-- what comes into a slot: it stands still, or is a new list of one's own -/
def KV1 (Z : Kx) (B : Bx) (F H F' H' : Hp) (s : Sl) (v : V) : Prop := match s with
  | .no => True
  | .sh d => RpX Z B F' d v
  | .ow ds => ∃ a vs, v = .ref a ∧ F' a = none ∧ H a = none ∧ H' a = some (.lst vs) ∧ RpLX Z B F' ds vs
  | .me _ _ => False
  | .ex _ _ => False
  | .dc _ => False
def yK (Z : Kx) (B : Bx) (m : Rho → R Sl) : TE := fun σ H Q => ∃ F ρ, Ok Z B F H σ ρ ∧ (m ρ).all (fun s => ∀ F' H' v, Ext B.dl F H F' H' → KV1 Z B F H F' H' s v → Q v H') (XpE Z B F H σ)
def mSh (m : Rho → R D) : Rho → R Sl := fun ρ => (m ρ).bind fun d => .ok (.sh d)
def mOw (m : Rho → R (List D)) : Rho → R Sl := fun ρ => (m ρ).bind fun ds => .ok (.ow ds)
def mPar2 (i j : Nat) (a b : Rho → R Sl) : Rho → R Out := fun ρ => lift ρ (a ρ) fun x => lift ρ (b ρ) fun y => .ok (.next ((ρ.set i x).set j y))
def mPar3 (i j l : Nat) (a b c : Rho → R Sl) : Rho → R Out := fun ρ => lift ρ (a ρ) fun x => lift ρ (b ρ) fun y => lift ρ (c ρ) fun z => .ok (.next (((ρ.set i x).set j y).set l z))
section
variable {Z : Kx} {B : Bx} {F H F' H' F2 H2 : Hp} {σ : L2.St} {ρ : Rho}
theorem KV1.step {s : Sl} {v : V} (k : DealOk B.dl H) (h : KV1 Z B F H F' H' s v) (e : Ext B.dl F' H' F2 H2) : KV1 Z B F H F2 H2 s v := by
  cases s with
  | no => trivial
  | ex c ds => exact h.elim
  | dc kvs => exact h.elim
  | sh d => exact Rp.mono e.ff _ _ h
  | ow ds =>
    obtain ⟨a, vs, rfl, n1, n2, h1, r⟩ := h
    exact ⟨a, vs, rfl, e.none_of n1 h1, n2, e.hh a _ h1 (k.nof n2), RpL.mono e.ff _ _ r⟩
  | me c ds => exact h.elim
theorem Ok.put (k : Ok Z B F H σ ρ) {s : Sl} {v : V} (e : Ext B.dl F H F' H') (h : KV1 Z B F H F' H' s v) (i : Nat) : Ok Z B F' H' (σ.set i (some v)) (ρ.set i s) := by
  cases s with
  | ex c ds => exact h.elim
  | dc kvs => exact h.elim
  | no =>
    have z := ((k.step e).sh (Rp.non (mg := Z.mg) (dl := B.dl)) i)
    have w := ((k.step e).no i)
    refine ⟨w.ext, w.df, w.dk0, by rw [List.length_set]; exact w.len, fun j t et => ?_, fun j l ds es a ne e1 e2 e3 e4 => ?_⟩
    · by_cases hj : i = j
      · subst hj
        rw [List.getElem?_set] at et
        simp only [if_true] at et
        split at et
        · cases et; trivial
        · cases et
      · rw [List.getElem?_set_ne hj]
        exact w.sl j t et
    · have h1 : i ≠ j := fun z => by
        subst z
        rw [List.getElem?_set] at e1
        simp only [if_true] at e1
        split at e1 <;> cases e1
      have h2 : i ≠ l := fun z => by
        subst z
        rw [List.getElem?_set] at e2
        simp only [if_true] at e2
        split at e2 <;> cases e2
      rw [List.getElem?_set_ne h1] at e3
      rw [List.getElem?_set_ne h2] at e4
      exact w.inj j l ds es a ne e1 e2 e3 e4
  | sh d => exact (k.step e).sh h i
  | ow ds =>
    obtain ⟨a, vs, rfl, n1, n2, h1, r⟩ := h
    exact k.own e n1 n2 h1 r i
  | me c ds => exact h.elim
theorem sK {Q : VK} {m : Rho → R Sl} {g : Sl → R Out} {N : Ends} (ok : Ok Z B F H σ ρ) {P : Out → Prop} (h : (lift ρ (m ρ) g).all P (fun _ => False)) (hx : ∀ x, P (.exc x ρ) → XpE Z B F H σ x)
    (k : ∀ s F' H' v, Ext B.dl F H F' H' → KV1 Z B F H F' H' s v → (g s).all P (fun _ => False) → Q v H') : yK Z B m σ H Q :=
  ⟨F, ρ, ok, R.all_imp (fun d q F' H' v e r => k d F' H' v e r q) (fun x z => hx x z) (R.all_bx.mp h)⟩
end
section
variable {X : Cx} {B : Bx} {a b c e : Expr} {pos : Pos} {m : Rho → R D} {ma mb mc : Rho → R Sl}
theorem ck_sh (h : PE X e (yE X.kx B m)) : PE X e (yK X.kx B (mSh m)) := pe_imp h fun σ H Q ⟨F, ρ, ok, q⟩ => ⟨F, ρ, ok, R.all_imp (fun d z F' H' v e r => z F' H' v e r) (fun _ z => z) (R.all_bind.mp q)⟩
theorem ck_ow {m : Rho → R (List Y.D)} (h : PE X e (yO X.kx B m)) : PE X e (yK X.kx B (mOw m)) := pe_imp h fun σ H Q ⟨F, ρ, ok, q⟩ => ⟨F, ρ, ok, R.all_imp (fun d z F' H' a vs e n1 n2 h1 r => z F' H' (.ref a) e ⟨a, vs, rfl, n1, n2, h1, r⟩) (fun _ z => z) (R.all_bind.mp q)⟩
theorem exc_at {Z : Kx} {B : Bx} {F F' H' : Hp} {σ : L2.St} {ρ : Rho} {N : Ends} (s : Same F F') (ok : Ok Z B F' H' σ ρ) : ∀ x, OutOk Z B F N (.exc x ρ) → XpE Z B F' H' σ x := fun x z F2 H2 c o e q => z F2 H2 σ c o (s.trans e.ff) (ok.step e) q
theorem cs_par2 (i j : Nat) {x y : Str} {px py pt : Pos} {kt k2 : Nat} {pt2 : Pos} (hc : X.calm = true) (hN : X.N.Nodup) (ha : PE X a (yK X.kx B ma)) (hb : PE X b (yK X.kx B mb)) (hi : X.N[i]? = some x := by rfl) (hj : X.N[j]? = some y := by rfl) (hij : i ≠ j := by decide)
    (hx : X.env.scope.names.lookup x = some .local := by rfl) (hy : X.env.scope.names.lookup y = some .local := by rfl)
    (hw : swappedStores [.Tuple [.Name x px, .Name y py] kt pt] (.Tuple [a, b] k2 pt2) X.env = pure (some [x, y]) := by rfl)
    (hs : swapsWithSole [.Tuple [.Name x px, .Name y py] kt pt] (.Tuple [a, b] k2 pt2) pos.line X.env = pure false := by rfl)
    (s1 : starEach [a, b] X.env = (false, eval a X.env) :: starEach [b] X.env := by rfl) (s2 : starEach [b] X.env = (false, eval b X.env) :: starEach [] X.env := by rfl) :
    PS X (.Assign [.Tuple [.Name x px, .Name y py] kt pt] (.Tuple [a, b] k2 pt2) pos) (yS X.kx B (mPar2 i j ma mb)) := ps_imp (ps_par hc hN hi hj hij hx hy (pa_cons ha (pa_cons hb pa_nil s2) s1) hw hs) fun N σ H ⟨F, ρ, ok, q⟩ => by
  refine sK (N := N) ok q (exc_at (Same.refl F) ok) fun u F1 H1 v1 e1 r1 q1 => ?_
  have k1 := ok.step e1
  refine sK (N := N) k1 q1 (exc_at e1.ff k1) fun w F2 H2 v2 e2 r2 q2 => ?_
  refine ⟨v1, v2, rfl, q2 F2 H2 _ (e1.ff.trans e2.ff) ?_⟩
  exact (ok.put e1 r1 i).put e2 r2 j
theorem cs_par3 (i j l : Nat) {x y z : Str} {px py pz pt : Pos} {kt k2 : Nat} {pt2 : Pos} (hc : X.calm = true) (hN : X.N.Nodup) (ha : PE X a (yK X.kx B ma)) (hb : PE X b (yK X.kx B mb)) (he : PE X c (yK X.kx B mc)) (hi : X.N[i]? = some x := by rfl) (hj : X.N[j]? = some y := by rfl) (hl : X.N[l]? = some z := by rfl)
    (hij : i ≠ j := by decide) (hil : i ≠ l := by decide) (hjl : j ≠ l := by decide) (hx : X.env.scope.names.lookup x = some .local := by rfl) (hy : X.env.scope.names.lookup y = some .local := by rfl) (hz : X.env.scope.names.lookup z = some .local := by rfl)
    (hw : swappedStores [.Tuple [.Name x px, .Name y py, .Name z pz] kt pt] (.Tuple [a, b, c] k2 pt2) X.env = pure (some [x, y, z]) := by rfl)
    (hs : swapsWithSole [.Tuple [.Name x px, .Name y py, .Name z pz] kt pt] (.Tuple [a, b, c] k2 pt2) pos.line X.env = pure false := by rfl)
    (s1 : starEach [a, b, c] X.env = (false, eval a X.env) :: starEach [b, c] X.env := by rfl) (s2 : starEach [b, c] X.env = (false, eval b X.env) :: starEach [c] X.env := by rfl) (s3 : starEach [c] X.env = (false, eval c X.env) :: starEach [] X.env := by rfl) :
    PS X (.Assign [.Tuple [.Name x px, .Name y py, .Name z pz] kt pt] (.Tuple [a, b, c] k2 pt2) pos) (yS X.kx B (mPar3 i j l ma mb mc)) := ps_imp (ps_par3 hc hN hi hj hl hij hil hjl hx hy hz (pa_cons ha (pa_cons hb (pa_cons he pa_nil s3) s2) s1) hw hs) fun N σ H ⟨F, ρ, ok, q⟩ => by
  refine sK (N := N) ok q (exc_at (Same.refl F) ok) fun u F1 H1 v1 e1 r1 q1 => ?_
  have k1 := ok.step e1
  refine sK (N := N) k1 q1 (exc_at e1.ff k1) fun w F2 H2 v2 e2 r2 q2 => ?_
  have k2 := k1.step e2
  refine sK (N := N) k2 q2 (exc_at (e1.ff.trans e2.ff) k2) fun w F3 H3 v3 e3 r3 q3 => ?_
  refine ⟨v1, v2, v3, rfl, q3 F3 H3 _ ((e1.ff.trans e2.ff).trans e3.ff) ?_⟩
  exact ((ok.put e1 r1 i).put e2 r2 j).put e3 r3 l
end

/-! ### sum, sorted -/
def D.int? : D → Option Int
  | .int i => some i
  | _ => none
def dSum : List D → R D
  | [.lst ds] => match ds.mapM D.int? with
    | some ns => .ok (.int ns.sum)
    | none => .stuck
  | _ => .stuck
theorem ints_of {mg : Str → Option Value} {dl : DL} {F : Hp} : ∀ {ds : List D} {ns : List Int} {vs : List V}, ds.mapM D.int? = some ns → RpL mg dl F ds vs → vs = ns.map V.int
  | [], ns, vs, e, r => by
    simp at e
    subst e
    unfold RpL at r
    exact r
  | d :: ds, ns, vs, e, r => by
    unfold RpL at r
    obtain ⟨v, r', rfl, q, t⟩ := r
    rw [List.mapM_cons] at e
    cases d with
    | int i =>
      cases em : ds.mapM D.int? with
      | none => rw [em] at e; cases e
      | some ms =>
        rw [em] at e
        cases e
        unfold Rp at q
        subst q
        rw [List.map_cons, ints_of em t]
    | _ => cases e
def pairD (k : Int × Int) : D := .tup [.int k.1, .int k.2]
/-- pairs of ints that stand in order already -/
def InOrder (ds : List D) : Prop := ∃ ks : List (Int × Int), ds = ks.map pairD ∧ ks.Pairwise fun a b => SrtO.lexB b a = false
open Classical in
noncomputable def dSortP : List D → R D
  | [.lst ds] => R.grd (InOrder ds) (.ok (.lst ds))
  | _ => .stuck
section
variable {X : Cx} {B : Bx}
theorem cd_sum : CallD X.kx B (rSum X.K) dSum := fun ds vs F H Q E s k r q => by
  unfold dSum at q
  split at q
  · split at q
    · rename_i ns en
      obtain ⟨v, rfl, r1⟩ := one_arg r
      obtain ⟨p, ws, rfl, h1, l1⟩ := r1.lst s
      have ew := ints_of en l1
      subst ew
      exact ⟨p, ns, rfl, .inl (.inl h1), fin_int s k q⟩
    · exact q.elim
  · exact q.elim
def keyV (H : Hp) (v : V) : Int × Int := match v with
  | .ref t => match H t with
    | some (.tup [.int i, .int j]) => (i, j)
    | _ => (0, 0)
  | _ => (0, 0)
theorem pairs_keys {mg : Str → Option Value} {dl : DL} {F H : Hp} (s : Same F H) : ∀ {ks : List (Int × Int)} {vs : List V}, RpL mg dl F (ks.map pairD) vs → (∀ v ∈ vs, ∃ t, v = .ref t ∧ H t = some (.tup [.int (keyV H v).1, .int (keyV H v).2])) ∧ vs.map (keyV H) = ks
  | [], vs, r => by
    rw [List.map_nil] at r
    unfold RpL at r
    subst r
    exact ⟨fun v h => absurd h List.not_mem_nil, rfl⟩
  | k :: ks, vs, r => by
    rw [List.map_cons] at r
    unfold RpL at r
    obtain ⟨v, r', rfl, q, t⟩ := r
    obtain ⟨h1, h2⟩ := pairs_keys s t
    unfold pairD Rp at q
    obtain ⟨a, ws, rfl, ha, rl⟩ := q
    unfold RpL at rl
    obtain ⟨v1, r1, rfl, q1, t1⟩ := rl
    unfold RpL at t1
    obtain ⟨v2, r2, rfl, q2, t2⟩ := t1
    unfold RpL at t2
    unfold Rp at q1 q2
    subst q1 q2 t2
    have hk : keyV H (.ref a) = k := by
      unfold keyV
      simp only [s _ _ ha]
    refine ⟨fun v hv => ?_, by rw [List.map_cons, hk, h2]⟩
    rcases List.mem_cons.mp hv with z | z
    · subst z
      exact ⟨a, rfl, by rw [hk]; exact s _ _ ha⟩
    · exact h1 v z
open Classical in
theorem cd_sortP : CallD X.kx B (rSortedPO X.K) dSortP := fun ds vs F H Q E s k r q => by
  unfold dSortP at q
  split at q
  · obtain ⟨⟨ks, rfl, hp⟩, q⟩ := R.all_grd.mp q
    obtain ⟨v, rfl, r1⟩ := one_arg r
    obtain ⟨p, ws, rfl, h1, l1⟩ := r1.lst s
    obtain ⟨g1, g2⟩ := pairs_keys s l1
    refine ⟨p, ws, keyV H, rfl, .inl (.inl h1), g1, fun ys A hs hb hA => ?_⟩
    have sw : SrtO.Srtd (ltP (keyV H)) ws := by
      have e : ks = ws.map (keyV H) := g2.symm
      rw [e] at hp
      exact List.Pairwise.of_map _ (fun a b h => h) hp
    have ey : ys = ws := SrtO.stb_uniq (ltP_swo _) hs sw hb
    subst ey
    exact fin_lst s k l1 q A hA
  · exact q.elim
variable {k : Nat} {e : Expr} {es : List Expr} {p pos : Pos} {mr : Rho → R (List D)} (ha : PA X (e :: es) (yAB X.kx B mr)) (hc : X.calm = true)
include ha hc
theorem ce_sum (hm : X.mg "sum" = none) (hg : Gl X "sum" := by rfl) (he : starEach (e :: es) X.env = (false, eval e X.env) :: starEach es X.env := by rfl) (hpl : (backTo pos (starEach es X.env)).any (·.1) = false := by rfl) :
    PE X (.Call (.Name "sum" p) (e :: es) [] pos) (yE X.kx B (mBi dSum mr)) := ce_bi (cr_sum hc) cd_sum hm (by decide +kernel) ha hg (by decide) (by decide) he hpl
omit hc in
theorem ce_sortP (hm : X.mg "sorted" = none) (hg : Gl X "sorted" := by rfl) (he : starEach (e :: es) X.env = (false, eval e X.env) :: starEach es X.env := by rfl) (hpl : (backTo pos (starEach es X.env)).any (·.1) = false := by rfl) :
    PE X (.Call (.Name "sorted" p) (e :: es) [] pos) (yE X.kx B (mBi dSortP mr)) := ce_bi cr_sortedPO cd_sortP hm (by decide +kernel) ha hg (by decide) (by decide) he hpl
end

/-! ### isinstance against a built-in class -/
def D.tyName : D → Option String
  | .non => some "NoneType"
  | .bl _ => some "bool"
  | .int _ => some "int"
  | .str _ => some "str"
  | .tup _ => some "tuple"
  | .lst _ => some "list"
  | _ => none
def dIsi (T : String) (d : D) : R D := match d.tyName with
  | some a => match kitB a T with
    | some b => .ok (.bl b)
    | none => .stuck
  | none => .stuck
theorem ty_of {Z : Kx} {B : Bx} {F H : Hp} {d : D} {v : V} {a : String} (s : Same F H) (h : d.tyName = some a) (r : RpB Z B F H d v) : TyX Z.K H v (.type a) := by
  cases d with
  | non => cases h; cases r.non; exact .base .non
  | bl b => cases h; cases r.bl; exact .base (.bl b)
  | int b => cases h; cases r.int; exact .base (.int b)
  | str b => cases h; cases r.str; exact .base (.str b)
  | tup ds =>
    cases h
    obtain ⟨p, ws, rfl, h1, _⟩ := r.tup s
    exact .base (.tup h1)
  | lst ds =>
    cases h
    obtain ⟨p, ws, rfl, h1, _⟩ := r.lst s
    exact .base (.lst h1)
  | obj c ds => cases h
  | deal => cases h
theorem ce_isi {X : Cx} {B : Bx} (T : String) {x : Str} {e : Expr} {p p2 pos : Pos} {m : Rho → R D} (he : PE X e (yB X.kx B m)) (hm : X.mg "isinstance" = none) (hT : X.mg x = none) (hb : bootBuiltins x = some (.type T) := by decide +kernel) (hg : Gl X "isinstance" := by rfl) (hgT : Gl X x := by rfl) (hx : x ≠ "__name__" := by decide) (hd : (x == ("__debug__" : Str)) = false := by decide)
    (s1 : starEach [e, .Name x p2] X.env = (false, eval e X.env) :: starEach [.Name x p2] X.env := by rfl) (s2 : starEach [.Name x p2] X.env = (false, eval (.Name x p2) X.env) :: starEach [] X.env := by rfl) (hpl : (backTo pos (starEach [.Name x p2] X.env)).any (·.1) = false := by rfl) :
    PE X (.Call (.Name "isinstance" p) [e, .Name x p2] [] pos) (yE X.kx B (mUn (dIsi T) m)) :=
  pe_imp (pe_callB call_isi hg hm (by decide +kernel) (pa_cons he (pa_cons (pe_bltn (v := .ty T) hgT hT hb rfl hx hd) pa_nil s2) s1) (by decide) (by decide) s1 hpl) fun σ H Q ⟨F, ρ, ok, q⟩ => seqB ok q fun d F' H' v e1 r q1 => by
    have k := ok.step e1
    unfold dIsi at q1
    split at q1
    · rename_i a ea
      split at q1
      · rename_i b eb
        exact ⟨v, .ty T, .type a, .type T, b, rfl, .ty T, ty_of k.fh ea r, kit_ty eb, fin_bl k.fh k.dk (PE1.step q1 e1)⟩
      · exact q1.elim
    · exact q1.elim

/-! ### xs[::-1] of a list, a new list of one's own -/
def mRevL (m : Rho → R D) : Rho → R (List D) := fun ρ => (m ρ).bind fun d => match d with
  | .lst xs => .ok xs.reverse
  | _ => .stuck
theorem co_rev {X : Cx} {B : Bx} {e : Expr} {k : Nat} {p1 p2 p3 pos : Pos} {m : Rho → R D} (he : PE X e (yB X.kx B m)) : PE X (.Subscript e (.Slice none none (some (.UnaryOp .USub (.Constant (.int 1) k p1) p2)) p3) pos) (yO X.kx B (mRevL m)) :=
  pe_imp (pe_revL he) fun σ H Q ⟨F, ρ, ok, q⟩ => seqB ok q fun d F' H' v e1 r q1 => by
    have k := ok.step e1
    split at q1
    · obtain ⟨p, ws, rfl, h1, l1⟩ := r.lst k.fh
      refine ⟨p, ws, rfl, .inl (.inl h1), fun l hl => ?_⟩
      exact q1 _ _ l _ (e1.trans (.own k.fh k.dk hl _)) (same_none k.fh hl) (e1.new_old hl) upd_same (RpL.reverse l1)
    · exact q1.elim

/-! ### calls with keywords: the values, then an order of them -/
def pick {α : Type} (π : List Nat) (xs : List α) : List α := π.filterMap (xs[·]?)
theorem pick_vals (π : List Nat) {vs : List V} {us : List Value} (r : Vals vs us) : Vals (pick π vs) (pick π us) := by
  induction π with
  | nil => exact .nil
  | cons i π ih =>
    unfold pick at ih ⊢
    cases e : vs[i]? with
    | none => rw [List.filterMap_cons_none e, List.filterMap_cons_none (r.none_of e)]; exact ih
    | some v =>
      obtain ⟨u, eu, ru⟩ := r.get e
      rw [List.filterMap_cons_some e, List.filterMap_cons_some eu]
      exact .cons ru ih
theorem pick_rp (π : List Nat) {mg : Str → Option Value} {dl : DL} {F : Hp} {ds : List D} {vs : List V} (r : RpL mg dl F ds vs) : RpL mg dl F (pick π ds) (pick π vs) := by
  induction π with
  | nil => exact RpL.nil
  | cons i π ih =>
    unfold pick at ih ⊢
    cases e : ds[i]? with
    | none =>
      have e2 : vs[i]? = none := by
        rw [List.getElem?_eq_none_iff] at e ⊢
        rw [RpL.length r]
        exact e
      rw [List.filterMap_cons_none e, List.filterMap_cons_none e2]
      exact ih
    | some d =>
      obtain ⟨v, ev, rv⟩ := RpL.get r e
      rw [List.filterMap_cons_some e, List.filterMap_cons_some ev]
      exact RpL.cons rv ih
def KwTo (fd : FuncData) (ps ks : List Str) (n : Nat) (π : List Nat) : Prop := ∀ (s : Shared) (us ws : List Value), us.length = n → ws.length = ks.length → BindsTo s fd ⟨us, ks.zip ws⟩ (ps.zip (pick π (us ++ ws)))
theorem kwTo_mk {K : PySem.W.Frag} {x qual : Str} {st : Stmt} {f : Addr} {fd : FuncData} {ps ks : List Str} {n : Nat} {π : List Nat} (F : Fun K x qual st f fd)
    (h : ∀ (kV doc pm : Value) (an : Option Addr) (cdv ct : Value) (us ws : List Value), us.length = n → ws.length = ks.length → bindArgs (PySem.W.fnOf x qual (defArgs st) (defBody st) (defScope st) .none kV doc pm an cdv ct) ⟨us, ks.zip ws⟩ = pure (ps.zip (pick π (us ++ ws)))) : KwTo fd ps ks n π := by
  obtain ⟨oc, od, kV, doc, pm, an, cdv, ct, osl, rfl, _, _⟩ := F.ex
  exact fun s us ws h1 h2 => .of_eq (h kV doc pm an cdv ct us ws h1 h2)
/-- a def of the text, callable by its name with these keywords -/
def CalK (P : Program) (w : World) (K : PySem.W.Frag) (mg : Str → Option Value) (base : Heap) (k : Nat) (x : Str) (ks : List Str) (n : Nat) (π : List Nat) (a : Nat) (m : List D → R D) : Prop :=
  ∃ f fd ps, ps.length = a ∧ FnG P w K mg base k f fd ps (spD ⟨K, mg⟩ a m) ∧ mg x = some (.ref f) ∧ PySem.W.keepIn K (.ref f) = true ∧ KwTo fd ps ks n π
def mCallK (π : List Nat) (a n k : Nat) (m : List D → R D) (ma mk : Rho → R (List D)) : Rho → R D := fun ρ => (ma ρ).bind fun ds => (mk ρ).bind fun es => R.grd (ds.length = n ∧ es.length = k ∧ (pick π (ds ++ es)).length = a) (m (pick π (ds ++ es)))
section
variable {X : Cx} {B : Bx} {k j n a : Nat} {x : Str} {p pos : Pos} {e : Expr} {es : List Expr} {kws : List Keyword} {m : List D → R D} {ma mk : Rho → R (List D)} {ks : List Str} {π : List Nat}
theorem kw_nil : PK X [] (yA X.kx B mNil) := ⟨fun pos pins s σ H Q I ⟨F, ρ, ok, q⟩ => pk_nil.run pos pins s σ H Q I (q F H [] (.refl ok.fh ok.dk) RpL.nil)⟩
theorem kw_cons {nm : Option Str} {kp : Pos} {m : Rho → R D} (he : PE X e (yE X.kx B m)) (hr : PK X kws (yA X.kx B ma)) : PK X (⟨nm, e, kp⟩ :: kws) (yA X.kx B (mCons m ma)) := ⟨fun pos pins s σ H Q I ⟨F, ρ, ok, q⟩ => (pk_cons he hr).run pos pins s σ H Q I (by
  refine seqE ok q fun x F1 H1 v1 e1 r1 q1 => ?_
  refine seqA (ok.step e1) q1 fun xs F2 H2 vs e2 r2 q2 => ?_
  exact q2 F2 H2 (v1 :: vs) (e1.trans e2) (RpL.cons (Rp.mono e2.ff _ _ r1) r2))⟩
theorem runGK {E : L2.St → XK} {f : Addr} {fd : FuncData} {ps : List Str} {sp : Sp} {pins : List (Addr × Obj)} {σ : L2.St} {H : Hp} {s : Shared} {Q : VK} {us ws : List Value} {vs zs : List V} (F : FnG X.prog X.w X.K X.mg X.base k f fd ps sp) (rg : RG k X.A) (hb : KwTo fd ps ks n π) (hx : PassesAt (L2.CX X.prog X.w) X σ (E σ))
    (I : L2.Inv X pins σ H s) (r : Vals vs us) (rz : Vals zs ws) (l1 : vs.length = n) (l2 : zs.length = ks.length) (h : sp (pick π (vs ++ zs)) H Q (E σ)) : wpAny (model X.prog X.w) X.A (call (.ref f) us (ks.zip ws)) (EP X pins σ Q) X.xe s := by
  refine wpAny_call (codeAny_mono (F.run X.A X.stack s H ⟨us, ks.zip ws⟩ _ _ Q (E σ) rg I.env0 (hb s us ws (r.length.symm.trans l1) (rz.length.symm.trans l2)) (pick_vals π (r.append rz)) h) fun z s' hz => ?_)
  rcases z with z | z
  · exact hx pins H s z s' I hz
  · cases z with
    | ret u => exact I.after hz
    | next => exact False.elim hz
    | brk => exact False.elim hz
    | cont => exact False.elim hz
theorem ce_callK (G : CalK X.prog X.w X.K X.mg X.base j x ks n π a m) (hr : RG k X.A) (hj : j ≤ k) (tk : Takes X B.W) (ha : PA X (e :: es) (yA X.kx B ma)) (hkw : PK X kws (yA X.kx B mk)) (hg : Gl X x := by rfl) (hall : (backToKw pos (keywordEach kws X.env)).all (·.1.isSome) = true := by rfl) (hks : (backToKw pos (keywordEach kws X.env)).filterMap (·.1) = ks := by rfl)
    (hdb : (x == ("__debug__" : Str)) = false := by decide) (he : starEach (e :: es) X.env = (false, eval e X.env) :: starEach es X.env := by rfl) (hpl : ((backTo pos (starEach (e :: es) X.env)).any (·.1) || (backToKw pos (keywordEach kws X.env)).any (·.1.isNone)) = false := by rfl) :
    PE X (.Call (.Name x p) (e :: es) kws pos) (yE X.kx B (mCallK π a n ks.length m ma mk)) := ⟨fun pins s σ H Q I ⟨F, ρ, ok, q⟩ => by
  obtain ⟨f, fd, ps, ea, Ff, hm, hk, hb⟩ := G
  refine wpAny_Call_Name_kw (ld_glob I hg hm ?_ hdb)
  refine PySem.W.callWith_KW (h₀ := X.base) I.ok.mod.kin hk hall ?_ hpl he
  have h1 : yA X.kx B ma σ H fun vs H1 => yA X.kx B mk σ H1 fun zs H2 => vs.length = n ∧ zs.length = ks.length ∧ spD ⟨X.K, X.mg⟩ a m (pick π (vs ++ zs)) H2 Q (WE B.W σ) := by
    refine seqA ok q fun ds F1 H1 vs e1 r1 q1 => ?_
    refine seqA (ok.step e1) q1 fun fs F2 H2 zs e2 r2 q2 => ?_
    obtain ⟨⟨hl1, hl2, hl3⟩, q2⟩ := R.all_grd.mp q2
    have k2 := (ok.step e1).step e2
    have rr := pick_rp π (RpL.append (RpL.mono e2.ff _ _ r1) r2)
    refine ⟨by rw [RpL.length r1]; exact hl1, by rw [RpL.length r2]; exact hl2, B.dl, F2, _, hl3, k2.fh, k2.dk, k2.df, rr, R.all_imp (fun d z F3 H3 v e3 r3 => z F3 H3 v ((e1.trans e2).trans e3) r3) (fun x z F3 H3 c o e3 w => z F3 H3 c o e3 w) q2⟩
  refine thn (ha.run pos pins s σ H _ I h1) fun us s1 ⟨vs, H1, I1, r, q⟩ => ?_
  refine thn (hkw.run pos pins s1 σ H1 _ I1 q) fun ws s2 ⟨zs, H2, I2, rz, l1, l2, q2⟩ => ⟨I2.kIn, ?_⟩
  rw [hks]
  exact runGK (E := WE B.W) Ff (hr.mono hj) hb (passAt tk σ) I2 r rz l1 l2 q2⟩
theorem ce_callK0 (G : CalK X.prog X.w X.K X.mg X.base j x ks 0 π a m) (hr : RG k X.A) (hj : j ≤ k) (tk : Takes X B.W) (hkw : PK X kws (yA X.kx B mk)) (hg : Gl X x := by rfl) (hall : (backToKw pos (keywordEach kws X.env)).all (·.1.isSome) = true := by rfl) (hks : (backToKw pos (keywordEach kws X.env)).filterMap (·.1) = ks := by rfl)
    (hdb : (x == ("__debug__" : Str)) = false := by decide) (hpl : ((backTo pos (starEach [] X.env)).any (·.1) || (backToKw pos (keywordEach kws X.env)).any (·.1.isNone)) = false := by rfl) :
    PE X (.Call (.Name x p) [] kws pos) (yE X.kx B (mCallK π a 0 ks.length m mNil mk)) := ⟨fun pins s σ H Q I ⟨F, ρ, ok, q⟩ => by
  obtain ⟨f, fd, ps, ea, Ff, hm, hk, hb⟩ := G
  refine wpAny_Call_Name_kw (ld_glob I hg hm ?_ hdb)
  refine PySem.W.callWith_KW0 (h₀ := X.base) I.ok.mod.kin hk hall ?_ hpl
  have h1 : yA X.kx B mk σ H fun zs H2 => zs.length = ks.length ∧ spD ⟨X.K, X.mg⟩ a m (pick π ([] ++ zs)) H2 Q (WE B.W σ) := by
    refine seqA ok q fun fs F2 H2 zs e2 r2 q2 => ?_
    obtain ⟨⟨hl1, hl2, hl3⟩, q2⟩ := R.all_grd.mp q2
    have k2 := ok.step e2
    have rr := pick_rp π r2
    refine ⟨by rw [RpL.length r2]; exact hl2, B.dl, F2, _, hl3, k2.fh, k2.dk, k2.df, rr, R.all_imp (fun d z F3 H3 v e3 r3 => z F3 H3 v (e2.trans e3) r3) (fun x z F3 H3 c o e3 w => z F3 H3 c o e3 w) q2⟩
  refine thn (hkw.run pos pins s σ H _ I h1) fun ws s2 ⟨zs, H2, I2, rz, l2, q2⟩ => ⟨I2.kIn, ?_⟩
  rw [hks]
  exact runGK (E := WE B.W) Ff (hr.mono hj) hb (passAt tk σ) I2 .nil rz rfl l2 q2⟩
end
end Y
/-! # Y14 -/
set_option Elab.async false
set_option linter.all false
set_option maxRecDepth 100000
set_option maxHeartbeats 4000000
namespace Y
open PySem PySem.Spec L2

/-! ### one's own lists by + and * -/
def mAddL (a b : Rho → R D) : Rho → R (List D) := fun ρ => (a ρ).bind fun x => (b ρ).bind fun y => match x, y with
  | .lst xs, .lst ys => R.grd (xs.length + ys.length ≤ 16777216) (.ok (xs ++ ys))
  | _, _ => .stuck
def mMulL (a b : Rho → R D) : Rho → R (List D) := fun ρ => (a ρ).bind fun x => (b ρ).bind fun y => match x, y with
  | .lst xs, .int k => R.grd (-(2 ^ 63) ≤ k ∧ k < 2 ^ 63 ∧ xs.length * k.toNat ≤ 16777216) (.ok (List.replicate k.toNat xs).flatten)
  | _, _ => .stuck
section
variable {X : Cx} {B : Bx} {a b : Expr} {pos : Pos} {ma mb : Rho → R D}
theorem co_add (ha : PE X a (yB X.kx B ma)) (hb : PE X b (yB X.kx B mb)) : PE X (.BinOp a .Add b pos) (yO X.kx B (mAddL ma mb)) := pe_imp (pe_op op_cat ha hb) fun σ H Q ⟨F, ρ, ok, q⟩ => by
  refine seqB ok q fun x F1 H1 v1 e1 r1 q1 => ?_
  refine seqB (ok.step e1) q1 fun y F2 H2 v2 e2 r2 q2 => ?_
  have k := (ok.step e1).step e2
  split at q2
  · obtain ⟨hl, q2⟩ := R.all_grd.mp q2
    obtain ⟨p1, w1, rfl, h1, l1⟩ := (r1.step e2).lst k.fh
    obtain ⟨p2, w2, rfl, h2, l2⟩ := r2.lst k.fh
    refine ⟨p1, p2, w1, w2, rfl, rfl, h1, h2, by rw [RpL.length l1, RpL.length l2, szl]; exact hl, fun l hl => ?_⟩
    have e12 := e1.trans e2
    exact q2 _ _ l _ (e12.trans (.own k.fh k.dk hl _)) (same_none k.fh hl) (e12.new_old hl) upd_same (RpL.append l1 l2)
  · exact q2.elim
theorem co_mul (ha : PE X a (yB X.kx B ma)) (hb : PE X b (yB X.kx B mb)) : PE X (.BinOp a .Mult b pos) (yO X.kx B (mMulL ma mb)) := pe_imp (pe_op op_rep ha hb) fun σ H Q ⟨F, ρ, ok, q⟩ => by
  refine seqB ok q fun x F1 H1 v1 e1 r1 q1 => ?_
  refine seqB (ok.step e1) q1 fun y F2 H2 v2 e2 r2 q2 => ?_
  have k := (ok.step e1).step e2
  split at q2
  · obtain ⟨hl, q2⟩ := R.all_grd.mp q2
    obtain ⟨p1, w1, rfl, h1, l1⟩ := (r1.step e2).lst k.fh
    cases r2.int
    refine ⟨p1, _, w1, rfl, rfl, h1, hl.1, hl.2.1, by rw [RpL.length l1, szl]; exact hl.2.2, fun l hl => ?_⟩
    have e12 := e1.trans e2
    exact q2 _ _ l _ (e12.trans (.own k.fh k.dk hl _)) (same_none k.fh hl) (e12.new_old hl) upd_same (RpL.rep l1 _)
  · exact q2.elim
theorem ct_yes : PTs X [] (yT X.kx B mYes) := ⟨fun pins s σ H Q I ⟨F, ρ, ok, q⟩ => pts_nil.run pins s σ H Q I (q F H (.refl ok.fh ok.dk))⟩
end

/-! ### xs[::-1] of a tuple -/
section
variable {prog : Program} {w : World} {A : Around} {E : Value → Shared → Prop} {s : Shared}
theorem adjust_back (n : Nat) : Builtin.Slice.sliceAdjust none none (-1) (n : Int) = ((n : Int) - 1, -1) := rfl
theorem places_back (n : Nat) : Builtin.Slice.slicePlaces ((n : Int) - 1) (-1) (-1) = n := by
  unfold Builtin.Slice.slicePlaces
  have h1 : ¬ ((-1 : Int) > 0) := by decide
  simp only [h1, if_false]
  have e : ((n : Int) - 1 - -1 - 1) / (- -1) = (n : Int) - 1 := by
    rw [show (- -1 : Int) = 1 by decide, Int.ediv_one]
    omega
  rw [e]
  split <;> omega
theorem sliceApplied_back {sl : Addr} {n : Nat} {vs : Value} {Q : Int × Int × Nat → Shared → Prop} (hs : s.heap.IsSliceOf sl .none .none vs) (ps : IsPart vs (some (-1))) (h : Q ((n : Int) - 1, -1, n) s) :
    wpAny (model prog w) A (Builtin.Slice.sliceApplied (.ref sl) (pure (n : Int))) Q E s := by
  obtain ⟨os, hos, hcs, hds⟩ := id hs
  unfold Builtin.Slice.sliceApplied Builtin.Slice.sliceFields
  refine wpAny_bind (wpAny_bind (wpAny_field hos hds (x := .none) rfl (wpAny_bind (wpAny_field hos hds (x := .none) rfl (wpAny_bind (wpAny_field hos hds (x := vs) rfl (wpAny_pure ?_)))))))
  refine wpAny_bind (HT.slicePart_ ps ?_)
  show wpAny _ _ (if ((-1 : Int) == 0) = true then _ else _) _ _ s
  rw [if_neg (by decide)]
  refine wpAny_bind (HT.slicePart_ .none (wpAny_bind (HT.slicePart_ .none (wpAny_bind (wpAny_pure ?_)))))
  show wpAny _ _ (match Builtin.Slice.sliceAdjust none none (-1) (n : Int) with | (lo, hi) => pure (lo, (-1 : Int), Builtin.Slice.slicePlaces lo hi (-1))) _ _ s
  rw [adjust_back]
  show wpAny _ _ (pure ((n : Int) - 1, (-1 : Int), Builtin.Slice.slicePlaces ((n : Int) - 1) (-1) (-1))) _ _ s
  rw [places_back]
  exact wpAny_pure h
theorem pick_back (xs : Array Value) : ((List.range xs.size).filterMap fun (m : Nat) => xs[(((xs.size : Int) - 1) + (m : Int) * -1).toNat]?).toArray = xs.toList.reverse.toArray := by
  have e : (fun (m : Nat) => xs[(((xs.size : Int) - 1) + (m : Int) * -1).toNat]?) = (xs[·]?) ∘ fun (m : Nat) => (((xs.size : Int) - 1) + (m : Int) * -1).toNat := rfl
  rw [e, ← List.filterMap_map]
  have e2 : (List.range xs.size).map (fun (m : Nat) => (((xs.size : Int) - 1) + (m : Int) * -1).toNat) = (List.range xs.size).map fun k => xs.size - 1 - k := by
    apply List.map_congr_left
    intro k hk
    have := List.mem_range.mp hk
    omega
  rw [e2, PySem.W.krv_range, List.filterMap_reverse, PySem.W.krv_all]
theorem getItem_tuple_back {t sl : Addr} {items : Array Value} {vs : Value} {Q : Value → Shared → Prop} (ht : PyProof.Rows.IsTup s.heap t items) (hs : s.heap.IsSliceOf sl .none .none vs) (ps : IsPart vs (some (-1)))
    (h : Q (.ref s.heap.objs.size) { s with heap := s.heap.push { cls := .type "tuple", data := .seq items.toList.reverse.toArray } })
    (hsz : items.size ≤ sizeLine) : wpAny (model prog w) A (getItem (.ref t) (.ref sl)) Q E s := by
  have hrev : sizeOk (.seq items.toList.reverse.toArray) := by
    show items.toList.reverse.toArray.size ≤ sizeLine
    rw [List.size_toArray, List.length_reverse, Array.length_toList]
    exact hsz
  obtain ⟨os, hos, hcs, hds⟩ := id hs
  have hTs : s.TypeIs (.ref sl) "slice" := ⟨os, hos, hcs⟩
  unfold getItem
  try with_reducible refine wpAny_holding ?_
  first | refine wpAny_bind (wpAny_pure ?_) | skip
  refine wpAny_bind (wpAny_sequenceKey ht.typeIs (by decide) ?_)
  refine wpAny_bind (wpAny_callSpecial?_slot (name := Str.ofString "__getitem__") ht.typeIs PyProof.Rows.slot_tuple_getitem
    (wpAny_call_entry PyProof.Rows.slot_tuple_getitem ht.typeIs PyProof.Rows.entry_tuple_getitem ?_ (PyProof.Rows.args_tuple_getitem _ _)))
  show wpAny _ _ (Builtin.Tuple.tupleItemsOf (.ref t) >>= _) _ _ s
  refine wpAny_bind (PyProof.Rows.tupleItemsOf_ ht ?_)
  refine wpAny_bind (wpAny_typeOf hTs ?_)
  rw [if_pos (by decide)]
  refine wpAny_bind (sliceApplied_back hs ps ?_)
  have hno : ¬ (((((items.size : Int) - 1) == 0) && (-1 : Int) == 1 && items.size == items.size) = true) := by
    rw [show ((-1 : Int) == 1) = false by decide, Bool.and_false, Bool.false_and]
    exact Bool.false_ne_true
  show wpAny _ _ (if ((((items.size : Int) - 1) == 0) && (-1 : Int) == 1 && items.size == items.size) = true then _ else _) _ _ s
  rw [if_neg hno, pick_back]
  first
    | exact wpAny_bind (m := Builtin.Tuple.tupleExact _) (wpAny_newObj_type (wpAny_pure ⟨_, rfl, wpAny_pure h⟩) hrev)
    | exact wpAny_bind (m := Builtin.Tuple.tupleExact _) (wpAny_newObj_type (wpAny_bind (wpAny_pure (wpAny_pure ⟨_, rfl, wpAny_pure h⟩))) hrev)
    | exact wpAny_bind (wpAny_bind (m := Builtin.Tuple.tupleExact _) (wpAny_newObj_type (wpAny_pure (wpAny_pure ⟨_, rfl, wpAny_pure h⟩)) hrev))
    | exact wpAny_bind (wpAny_bind (m := Builtin.Tuple.tupleExact _) (wpAny_newObj_type (wpAny_pure ⟨_, rfl, wpAny_pure h⟩) hrev))
end
/-- the new thing turned round: of a list, of a tuple -/
def tBack (K : PySem.W.Frag) (te : TE) : TE := fun σ H Q => te σ H fun x H1 => ∃ a xs, x = .ref a ∧ (SqL K H1 a xs ∧ (∀ p, H1 p = none → Q (.ref p) (upd H1 p (.lst xs.reverse))) ∨ SqT K H1 a xs ∧ (∀ p, H1 p = none → Q (.ref p) (upd H1 p (.tup xs.reverse))))
theorem pe_back {X : Cx} {e : Expr} {te : TE} {k : Nat} {p1 p2 p3 pos : Pos} (he : PE X e te) : PE X (.Subscript e (.Slice none none (some (.UnaryOp .USub (.Constant (.int 1) k p1) p2)) p3) pos) (tBack X.K te) := by
  refine ⟨fun pins s σ H Q I h => ?_⟩
  refine PyProof.Rows.Subscript_ (thn (he.run pins s σ H _ I h) fun v s1 ⟨x, H1, I1, r1, q1⟩ => ?_)
  obtain ⟨a, xs, ex, q⟩ := q1
  subst ex
  cases r1
  have hst : PO X (some (.UnaryOp .USub (.Constant (.int 1) k p1) p2)) (tPart (tUn (rU fun i => .int (-i)) (tC (.int 1)))) := po_some (pe_un un_neg pe_int)
  refine wpAny_Slice (thn (po_none.run pins s1 σ H1 (fun o H2 => o = none ∧ H2 = H1) I1 ⟨rfl, rfl⟩) fun vl s2 ⟨l, H2, I2, pl, el, e2⟩ => ?_)
  subst el e2
  refine thn (po_none.run pins s2 σ H2 (fun o H3 => o = none ∧ H3 = H2) I2 ⟨rfl, rfl⟩) fun vu s3 ⟨u, H3, I3, pu, eu, e3⟩ => ?_
  subst eu e3
  refine thn (hst.run pins s3 σ H3 (fun o H4 => o = some (-1) ∧ H4 = H3) I3 ⟨1, rfl, -1, rfl, rfl, rfl⟩) fun vs s4 ⟨o, H4, I4, ps, eo, e4⟩ => ?_
  subst eo e4
  cases pl
  cases pu
  have I5 : Inv X pins σ H4 { s4 with heap := s4.heap.push { cls := .type "slice", data := .fields #[.none, .none, vs] } } := I4.kept (t' := s4.toks) fun b ob q => Heap.get?_push_of_some _ q
  show wpAny (model X.prog X.w) X.A (PyProof.Rows.subscriptTail e (.Slice none none (some (.UnaryOp .USub (.Constant (.int 1) k p1) p2)) p3) (.ref a) (.ref s4.heap.objs.size)) (EP X pins σ Q) X.xe { s4 with heap := s4.heap.push { cls := .type "slice", data := .fields #[.none, .none, vs] } }
  rcases q with ⟨hx, q⟩ | ⟨hx, q⟩
  · obtain ⟨its, r, ht, hz⟩ := I5.list hx
    have hlen := r.length
    refine PyProof.Rows.tail_any (ops := [.ref a, .ref s4.heap.objs.size]) ht.isList.typeIs (PySem.slot_list_getitem.lookup) ?_ (by with_unfolding_all rfl)
    refine wpAny_getItem_list_slice ht.isList (Heap.IsSliceOf.new _ .none .none vs) .none .none ps (by decide) ?_ (by rw [List.size_toArray]; omega)
    rw [PySem.W.krv_pick]
    refine ⟨.ref _, _, I5.laid (t' := s4.toks) (o := .lst xs.reverse) (fun b ob q => Heap.get?_push_of_some _ q) (Nat.le_refl _) ?_, rfl, q _ (I5.hok.fresh (Nat.le_refl _))⟩
    exact ⟨by rw [List.length_reverse]; exact hz, _, 0, r.reverse, Heap.get?_push_size _ rfl⟩
  · obtain ⟨its, r, ht, hz⟩ := I5.tuple hx
    have hlen := r.length
    refine PyProof.Rows.tail_any (ops := [.ref a, .ref s4.heap.objs.size]) ht.typeIs (PyProof.Rows.slot_tuple_getitem.lookup) ?_ (by with_unfolding_all rfl)
    refine getItem_tuple_back ht (Heap.IsSliceOf.new _ .none .none vs) ps ?_ (by rw [List.size_toArray]; omega)
    refine ⟨.ref _, _, I5.laid (t' := s4.toks) (o := .tup xs.reverse) (fun b ob q => Heap.get?_push_of_some _ q) (Nat.le_refl _) ?_, rfl, q _ (I5.hok.fresh (Nat.le_refl _))⟩
    exact ⟨by rw [List.length_reverse]; exact hz, _, r.reverse, PyProof.Rows.IsTup.new _ _⟩
def mRevA (m : Rho → R D) : Rho → R D := fun ρ => (m ρ).bind fun d => match d with
  | .lst xs => .ok (.lst xs.reverse)
  | .tup xs => .ok (.tup xs.reverse)
  | _ => .stuck
theorem ce_rev {X : Cx} {B : Bx} {e : Expr} {k : Nat} {p1 p2 p3 pos : Pos} {m : Rho → R D} (he : PE X e (yB X.kx B m)) : PE X (.Subscript e (.Slice none none (some (.UnaryOp .USub (.Constant (.int 1) k p1) p2)) p3) pos) (yE X.kx B (mRevA m)) :=
  pe_imp (pe_back he) fun σ H Q ⟨F, ρ, ok, q⟩ => seqB ok q fun d F' H' v e1 r q1 => by
    have k := ok.step e1
    split at q1
    · obtain ⟨p, ws, rfl, h1, l1⟩ := r.lst k.fh
      exact ⟨p, ws, rfl, .inl ⟨.inl (.inl h1), fin_lst k.fh k.dk (RpL.reverse l1) (PE1.step q1 e1)⟩⟩
    · obtain ⟨p, ws, rfl, h1, l1⟩ := r.tup k.fh
      exact ⟨p, ws, rfl, .inr ⟨.inl (.inl h1), fin_tup k.fh k.dk (RpL.reverse l1) (PE1.step q1 e1)⟩⟩
    · exact q1.elim
end Y
/-! # Y15 -/
set_option Elab.async false
set_option linter.all false
set_option maxRecDepth 100000
set_option maxHeartbeats 4000000
namespace Y
open PySem PySem.Spec L2

/-! ### what may be compared: rows of ints, rows of rows of ints -/
theorem lay_ints : ∀ ns : List Int, PyData.canLayAll0 (ns.map PyData.int) = true ∧ PyData.depthAll (ns.map PyData.int) = 0
  | [] => by simp [PyData.canLayAll0, PyData.depthAll]
  | n :: ns => by
    obtain ⟨h1, h2⟩ := lay_ints ns
    simp [PyData.canLayAll0, PyData.depthAll, PyData.canLay0, PyData.depth, h1, h2]
theorem shaped_int (i : Int) : SeqAt.shaped (.int i) = true := by simp [SeqAt.shaped, PyData.canLay0, PyData.depth]
theorem shaped_ints (ns : List Int) : SeqAt.shaped (.list (ns.map PyData.int)) = true := by
  obtain ⟨h1, h2⟩ := lay_ints ns
  simp [SeqAt.shaped, PyData.canLay0, PyData.depth, h1, h2]
theorem shaped_tints (ns : List Int) : SeqAt.shaped (.tuple (ns.map PyData.int)) = true := by
  obtain ⟨h1, h2⟩ := lay_ints ns
  simp [SeqAt.shaped, PyData.canLay0, PyData.depth, h1, h2]
theorem lay_rows : ∀ xs : List (List Int), PyData.canLayAll0 (xs.map fun ns => .tuple (ns.map PyData.int)) = true ∧ PyData.depthAll (xs.map fun ns => .tuple (ns.map PyData.int)) ≤ 1
  | [] => by simp [PyData.canLayAll0, PyData.depthAll]
  | n :: ns => by
    obtain ⟨h1, h2⟩ := lay_rows ns
    obtain ⟨h3, h4⟩ := lay_ints n
    simp [PyData.canLayAll0, PyData.depthAll, PyData.canLay0, PyData.depth, h1, h2, h3, h4]
theorem shaped_rows (xs : List (List Int)) : SeqAt.shaped (.tuple (xs.map fun ns => .tuple (ns.map PyData.int))) = true := by
  obtain ⟨h1, h2⟩ := lay_rows xs
  simp [SeqAt.shaped, PyData.canLay0, PyData.depth, h1]
  omega
theorem shaped_lrows (xs : List (List Int)) : SeqAt.shaped (.list (xs.map fun ns => .tuple (ns.map PyData.int))) = true := by
  obtain ⟨h1, h2⟩ := lay_rows xs
  simp [SeqAt.shaped, PyData.canLay0, PyData.depth, h1]
  omega
theorem eqvAll_ints : ∀ (a b : List Int), PyData.eqvAll (a.map PyData.int) (b.map PyData.int) = decide (a = b)
  | [], [] => by simp [PyData.eqvAll]
  | [], _ :: _ => by simp [PyData.eqvAll]
  | _ :: _, [] => by simp [PyData.eqvAll]
  | x :: a, y :: b => by
    simp only [List.map_cons, PyData.eqvAll, PyData.eqv, eqvAll_ints a b]
    by_cases h : x = y
    · subst h; simp
    · simp [h]
theorem eqvAll_rows : ∀ (a b : List (List Int)), PyData.eqvAll (a.map fun ns => .tuple (ns.map PyData.int)) (b.map fun ns => .tuple (ns.map PyData.int)) = decide (a = b)
  | [], [] => by simp [PyData.eqvAll]
  | [], _ :: _ => by simp [PyData.eqvAll]
  | _ :: _, [] => by simp [PyData.eqvAll]
  | x :: a, y :: b => by
    simp only [List.map_cons, PyData.eqvAll, PyData.eqv, eqvAll_rows a b, eqvAll_ints]
    by_cases h : x = y
    · subst h; simp
    · simp [h]
theorem dp_ints {K : PySem.W.Frag} {H : Hp} : ∀ ns : List Int, DpAll K H (ns.map V.int) (ns.map PyData.int)
  | [] => .nil
  | n :: ns => .cons (.int n) (dp_ints ns)

/-! ### the deal: one number drawn -/
section
variable (K : PySem.W.Frag)
def tD0 : TE := tOp (rIxL K) (tVar 0) (tC (.int 0))
def tD1 : TE := tOp (rIxL K) (tVar 0) (tC (.int 1))
def tDL : TE := tOp (rIxL K) (tD0 K) (tUn (rU fun i => .int (-i)) (tC (.int 1)))
def tDNe : TT := tTest (tOp (rNeD K) (tD0 K) (tLst tNil))
def opMod : R2 := rI (fun _ j => 0 < j) fun i j => .int (i % j)
def opDiv : R2 := rI CDivW fun i j => .int (i / j)
def opAdd : R2 := rI0 fun i j => .int (i + j)
def opMul : R2 := rI CMul fun i j => .int (i * j)
def rInt1 : List V → Hp → VK → Prop := fun xs H Q => (∃ i, xs = [.int i] ∧ Q (.int i) H) ∨ ∃ k, xs = [.bl k] ∧ Q (.int (if k then 1 else 0)) H
def tIntOf (t : TE) : TE := tCB rInt1 (tCons t tNil)
def tPop : TE := tBM0 K "list" rPop (tD0 K)
/-- _law_any's body -/
def tAny : TS :=
  tSeq (tWhile (tAnd (tDNe K) (tTest (tOp (rEqD K) (tDL K) (tC (.int 0))))) (tDrop (tPop K)))
  (tSeq (tIfS (tDNe K)
    (tSeq (tAsg (tIntOf (tPop K)) (gName 2))
      (tSeq (tDrop (tBM K "list" rAppend (tD0 K) (tCons (tOp opDiv (tVar 2) (tVar 1)) tNil)))
        (tRet (tOp opMod (tVar 2) (tVar 1)))))
    tNext)
  (tSeq (tAsg (tOp opMod (tIntOf (tOp opAdd (tOp opMul (tD1 K) (tC (.int 40693))) (tC (.int 71)))) (tC (.int 2147483647))) (gSub (tVar 0) (tC (.int 1)) rSetL))
    (tRet (tOp opMod (tIntOf (tOp opDiv (tD1 K) (tC (.int 64)))) (tVar 1)))))
end
/-- the deal's two lists as they stand -/
structure DS (H0 H : Hp) (p c : Addr) (cs : List Int) (m : Int) : Prop where
  ne : p ≠ c
  hp : H p = some (.lst [.ref c, .int m])
  hc : H c = some (.lst (cs.map V.int))
  len : cs.length ≤ 63
  pos : ∀ x ∈ cs, 0 ≤ x
  m0 : 0 ≤ m
  m1 : m < 2147483647
  kp : ∀ x o, H0 x = some o → x ≠ p → x ≠ c → H x = some o
section
variable {K : PySem.W.Frag} {H0 H : Hp} {p c : Addr} {cs : List Int} {m b : Int} {σ : L2.St} {Q : VK}
theorem DS.at0 (h : DS H0 H p c cs m) (e : σ[0]? = some (some (.ref p))) (q : Q (.ref c) H) : tD0 K σ H Q := ⟨.ref p, e, p, _, 0, .ref c, rfl, rfl, .inl (.inl h.hp), rfl, q⟩
theorem DS.at1 (h : DS H0 H p c cs m) (e : σ[0]? = some (some (.ref p))) (q : Q (.int m) H) : tD1 K σ H Q := ⟨.ref p, e, p, _, 1, .int m, rfl, rfl, .inl (.inl h.hp), rfl, q⟩
theorem DS.new (h : DS H0 H p c cs m) {x : Addr} {o : HO} (e : H x = none) : DS H0 (upd H x o) p c cs m := by
  have k := same_upd (o := o) e
  exact ⟨h.ne, k _ _ h.hp, k _ _ h.hc, h.len, h.pos, h.m0, h.m1, fun y u z h1 h2 => k _ _ (h.kp y u z h1 h2)⟩
theorem DS.cells (h : DS H0 H p c cs m) {ds : List Int} (hl : ds.length ≤ 63) (hp : ∀ x ∈ ds, 0 ≤ x) : DS H0 (upd H c (.lst (ds.map V.int))) p c ds m :=
  ⟨h.ne, by rw [upd_ne h.ne]; exact h.hp, upd_same, hl, hp, h.m0, h.m1, fun y u z h1 h2 => by rw [upd_ne h2]; exact h.kp y u z h1 h2⟩
theorem DS.nonempty (h : DS H0 H p c cs m) (e : σ[0]? = some (some (.ref p))) {Q : Bool → Hp → Prop} (q : ∀ H', DS H0 H' p c cs m → Q (!decide (cs = [])) H') : tDNe K σ H Q := by
  refine h.at0 e ⟨Nat.zero_le _, fun o no => ?_⟩
  have h' := h.new (o := .lst []) no
  refine ⟨.list (cs.map PyData.int), .list [], .lst (.inl (.inl h'.hc)) (dp_ints cs), .lst (.inl (.inl upd_same)) .nil, shaped_ints cs, shaped_ints [], _, ?_, q _ h'⟩
  have e2 := eqvAll_ints cs []
  rw [List.map_nil] at e2
  simp only [PyData.eqv, e2]
theorem DS.last (h : DS H0 H p c (cs ++ [b]) m) (e : σ[0]? = some (some (.ref p))) (q : Q (.int b) H) : tDL K σ H Q := by
  refine h.at0 e ⟨1, rfl, c, _, -1, .int b, rfl, rfl, .inl (.inl h.hc), ?_, q⟩
  rw [List.map_append]
  exact atI_last _ _
theorem DS.pop (h : DS H0 H p c (cs ++ [b]) m) (e : σ[0]? = some (some (.ref p))) (q : ∀ H', DS H0 H' p c cs m → Q (.int b) H') : tPop K σ H Q := by
  refine h.at0 e ⟨.inl ⟨rfl, _, .inl (.inl h.hc)⟩, c, _, .int b, rfl, rfl, h.hc, ?_, ?_⟩
  · simp
  · have e1 : ((cs ++ [b]).map V.int).dropLast = cs.map V.int := by simp
    rw [e1]
    have hl := h.len
    rw [List.length_append] at hl
    exact q _ (h.cells (by omega) fun x hx => h.pos x (List.mem_append_left _ hx))
theorem log2_200 {b : Int} (h0 : 0 < b) (h : b < 2 ^ 200) : b.natAbs.log2 < 9000 := by
  have h1 : b.natAbs < 2 ^ 200 := by omega
  have h2 : b.natAbs.log2 < 200 := (Nat.log2_lt (by omega)).mpr h1
  omega
/-- a number below the bound is drawn; the deal stands -/
theorem any_sem {D : Ends} (h : DS H0 H p c cs m) (b0 : 0 < b) (b1 : b < 2 ^ 200) {u : Option V} (es : σ = [some (.ref p), some (.int b), u])
    (q : ∀ (r : Int) H' cs' m', 0 ≤ r → r < b → DS H0 H' p c cs' m' → D.rt (.int r) H') : tAny K D σ H := by
  have e0 : σ[0]? = some (some (.ref p)) := by rw [es]; rfl
  have e1 : σ[1]? = some (some (.int b)) := by rw [es]; rfl
  -- behind the loop
  have rest : ∀ (cs : List Int) (H : Hp), DS H0 H p c cs m → (tSeq (tIfS (tDNe K)
    (tSeq (tAsg (tIntOf (tPop K)) (gName 2))
      (tSeq (tDrop (tBM K "list" rAppend (tD0 K) (tCons (tOp opDiv (tVar 2) (tVar 1)) tNil)))
        (tRet (tOp opMod (tVar 2) (tVar 1)))))
    tNext)
  (tSeq (tAsg (tOp opMod (tIntOf (tOp opAdd (tOp opMul (tD1 K) (tC (.int 40693))) (tC (.int 71)))) (tC (.int 2147483647))) (gSub (tVar 0) (tC (.int 1)) rSetL))
    (tRet (tOp opMod (tIntOf (tOp opDiv (tD1 K) (tC (.int 64)))) (tVar 1))))) D σ H := by
    intro cs H h
    refine h.nonempty e0 fun H1 h1 => ?_
    rcases List.eq_nil_or_concat cs with ez | ⟨ys, x, ez⟩
    · subst ez
      rw [decide_eq_true rfl]
      rw [if_neg (by decide)]
      refine h1.at1 e0 ⟨m, 40693, rfl, rfl, .inr (by decide), _, 71, rfl, rfl, .inl ⟨_, rfl, _, 2147483647, rfl, rfl, (by show (0 : Int) < 2147483647; decide), ?_⟩⟩
      refine ⟨.ref p, e0, p, _, 1, 1, rfl, rfl, h1.hp, rfl, ?_⟩
      have hm0 : 0 ≤ (m * 40693 + 71) % 2147483647 := Int.emod_nonneg _ (by decide)
      have hm1 : (m * 40693 + 71) % 2147483647 < 2147483647 := Int.emod_lt_of_pos _ (by decide)
      have h2 : DS H0 (upd H1 p (.lst ([.ref c, .int m].set 1 (.int ((m * 40693 + 71) % 2147483647))))) p c [] ((m * 40693 + 71) % 2147483647) :=
        ⟨h1.ne, upd_same, by rw [upd_ne (Ne.symm h1.ne)]; exact h1.hc, h1.len, h1.pos, hm0, hm1, fun y u z k1 k2 => by rw [upd_ne k1]; exact h1.kp y u z k1 k2⟩
      refine h2.at1 e0 ⟨_, 64, rfl, rfl, ⟨by decide, by decide⟩, .inl ⟨_, rfl, .int b, e1, _, b, rfl, rfl, b0, ?_⟩⟩
      exact q _ _ _ _ (Int.emod_nonneg _ (by omega)) (Int.emod_lt_of_pos _ b0) h2
    · rw [List.concat_eq_append] at ez
      subst ez
      rw [decide_eq_false (by simp)]
      rw [if_pos (by decide)]
      refine h1.pop e0 fun H2 h2 => .inl ⟨x, rfl, ?_⟩
      have e0' : (σ.set 2 (some (.int x)))[0]? = some (some (.ref p)) := by rw [es]; rfl
      have e1' : (σ.set 2 (some (.int x)))[1]? = some (some (.int b)) := by rw [es]; rfl
      have e2' : (σ.set 2 (some (.int x)))[2]? = some (some (.int x)) := by rw [es]; rfl
      have hx : 0 ≤ x := h.pos x (by simp)
      refine h2.at0 e0' ⟨.inl ⟨rfl, _, .inl (.inl h2.hc)⟩, .int x, e2', .int b, e1', x, b, rfl, rfl, ⟨b0, log2_200 b0 b1⟩, c, _, .int (x / b), rfl, rfl, h2.hc, ?_, ?_⟩
      · have := h2.len
        rw [List.length_map, szl]
        omega
      · have hd : 0 ≤ x / b := Int.ediv_nonneg hx (by omega)
        have hl := h.len
        rw [List.length_append] at hl
        have h3 : DS H0 (upd H2 c (.lst ((ys ++ [x / b]).map V.int))) p c (ys ++ [x / b]) m := h2.cells (by rw [List.length_append]; exact hl) fun y hy => by
          rcases List.mem_append.mp hy with z | z
          · exact h2.pos y z
          · rw [List.mem_singleton.mp z]; exact hd
        rw [List.map_append] at h3
        refine ⟨.int x, e2', .int b, e1', x, b, rfl, rfl, b0, ?_⟩
        exact q _ _ _ _ (Int.emod_nonneg _ (by omega)) (Int.emod_lt_of_pos _ b0) h3
  refine ⟨fun n σ1 H1 => σ1 = σ ∧ ∃ cs, cs.length = n ∧ DS H0 H1 p c cs m, ⟨cs.length, rfl, cs, rfl, h⟩, ?_⟩
  rintro n σ1 H1 ⟨rfl, cs, en, h1⟩
  refine h1.nonempty e0 fun H2 h2 => ?_
  rcases List.eq_nil_or_concat cs with ez | ⟨ys, x, ez⟩
  · subst ez
    rw [decide_eq_true rfl]
    exact rest _ _ h2
  · rw [List.concat_eq_append] at ez
    subst ez
    rw [decide_eq_false (by simp)]
    rw [if_pos (by decide)]
    refine h2.last e0 ⟨.int x, .int 0, .int x, .int 0, shaped_int x, shaped_int 0, _, rfl, ?_⟩
    by_cases hx : x = 0
    · subst hx
      refine ⟨fun σ' H' => ∃ n', n' < n ∧ σ' = σ1 ∧ ∃ cs, cs.length = n' ∧ DS H0 H' p c cs m, fun σ' H' z => z, ?_⟩
      refine h2.pop e0 fun H3 h3 => ⟨ys.length, by rw [← en, List.length_append]; exact Nat.lt_succ_self _, rfl, ys, rfl, h3⟩
    · have e3 : PyData.eqv (.int x) (.int 0) = false := by simp [PyData.eqv, hx]
      rw [e3]
      exact rest _ _ h2
end
end Y
/-! # Y16 -/
set_option Elab.async false
set_option linter.all false
set_option maxRecDepth 100000
set_option maxHeartbeats 4000000
namespace Y
open PySem PySem.Spec L2

/-! ### loops by an invariant -/
theorem fLoop_all {b : D → Rho → R Out} {P : Out → Prop} {E : D → Prop} (I : Nat → Rho → Prop) (xs : List D)
    (hs : ∀ i x ρ, xs[i]? = some x → I i ρ → (b x ρ).all (fun o => match o with
      | .next ρ' => I (i + 1) ρ'
      | .cont ρ' => I (i + 1) ρ'
      | .brk ρ' => P (.next ρ')
      | o => P o) E) (hd : ∀ ρ, I xs.length ρ → P (.next ρ)) : ∀ n ρ, n ≤ xs.length → I n ρ → (fLoop b (xs.drop n) ρ).all P E := by
  suffices h : ∀ k n ρ, n + k = xs.length → I n ρ → (fLoop b (xs.drop n) ρ).all P E from fun n ρ hn h0 => h (xs.length - n) n ρ (by omega) h0
  intro k
  induction k with
  | zero =>
    intro n ρ hn h0
    rw [List.drop_of_length_le (by omega)]
    rw [Nat.add_zero] at hn
    subst hn
    exact hd ρ h0
  | succ k ih =>
    intro n ρ hn h0
    have hlt : n < xs.length := by omega
    rw [List.drop_eq_getElem_cons hlt]
    unfold fLoop
    refine R.all_bind.mpr (R.all_imp (fun o z => ?_) (fun _ z => z) (hs n _ ρ (List.getElem?_eq_getElem hlt) h0))
    cases o with
    | next ρ' => exact ih (n + 1) ρ' (by omega) z
    | cont ρ' => exact ih (n + 1) ρ' (by omega) z
    | brk ρ' => exact z
    | ret d => exact z
    | exc x ρ' => exact z
theorem fLoop_all0 {b : D → Rho → R Out} {P : Out → Prop} {E : D → Prop} (I : Nat → Rho → Prop) {xs : List D} {ρ : Rho} (h0 : I 0 ρ)
    (hs : ∀ i x ρ, xs[i]? = some x → I i ρ → (b x ρ).all (fun o => match o with
      | .next ρ' => I (i + 1) ρ'
      | .cont ρ' => I (i + 1) ρ'
      | .brk ρ' => P (.next ρ')
      | o => P o) E) (hd : ∀ ρ, I xs.length ρ → P (.next ρ)) : (fLoop b xs ρ).all P E := fLoop_all I xs hs hd 0 ρ (Nat.zero_le _) h0
/-- each turn adds what f says -/
theorem cLoop_map {b : Bnd} {t : Rho → R Bool} {e : Rho → R D} {ρ : Rho} (g : D → D) : ∀ xs : List D, (∀ x ∈ xs, ∃ ρ1, b x ρ = some ρ1 ∧ t ρ1 = .ok true ∧ e ρ1 = .ok (g x)) → cLoop b t e ρ xs = .ok (xs.map g)
  | [], _ => rfl
  | x :: xs, h => by
    obtain ⟨ρ1, h1, h2, h3⟩ := h x List.mem_cons_self
    unfold cLoop
    rw [h1]
    show (t ρ1).nb _ = _
    rw [h2, R.nb_ok, if_pos rfl, h3, R.nb_ok, cLoop_map g xs fun y hy => h y (List.mem_cons_of_mem _ hy)]
    rfl
/-- each turn is asked, and adds what g says -/
theorem cLoop_filter {b : Bnd} {t : Rho → R Bool} {e : Rho → R D} {ρ : Rho} (p : D → Bool) (g : D → D) : ∀ xs : List D, (∀ x ∈ xs, ∃ ρ1, b x ρ = some ρ1 ∧ t ρ1 = .ok (p x) ∧ (p x = true → e ρ1 = .ok (g x))) → cLoop b t e ρ xs = .ok ((xs.filter p).map g)
  | [], _ => rfl
  | x :: xs, h => by
    obtain ⟨ρ1, h1, h2, h3⟩ := h x List.mem_cons_self
    have ih := cLoop_filter p g xs fun y hy => h y (List.mem_cons_of_mem _ hy)
    unfold cLoop
    rw [h1]
    show (t ρ1).nb _ = _
    rw [h2, R.nb_ok]
    cases hp : p x with
    | true =>
      rw [if_pos rfl, h3 hp, R.nb_ok, ih, List.filter_cons_of_pos hp]
      rfl
    | false => rw [if_neg Bool.false_ne_true, ih, List.filter_cons_of_neg (by rw [hp]; exact Bool.false_ne_true)]

/-! ### one number drawn, as a def -/
def f_any : List D → R D
  | [.deal, .int b] => .draw b fun r => .ok (.int r)
  | _ => .stuck
section
variable {P : Program} {w : World} {K : PySem.W.Frag} {mg : Str → Option Value} {base : Heap}
theorem fn_any {x qual : Str} {st : Stmt} {f : Addr} {fd : FuncData} {N ps : List Str} (F : Fun K x qual st f fd) (S : FnScope N ps (defScope st)) (hN : N.length = 3) (hp : ps.length = 2)
    (hb : ∀ (f : Addr) (cdv : Value) (A : Around) (outer : List Env) (s : Shared) (H : Hp) (E : XK), RG 0 (cxF P w K mg base N qual (defScope st) f cdv A outer s H E).A →
      PassesOwn (model P w) (cxF P w K mg base N qual (defScope st) f cdv A outer s H E).A (cxF P w K mg base N qual (defScope st) f cdv A outer s H E).env (cxF P w K mg base N qual (defScope st) f cdv A outer s H E).xe →
      PSs (cxF P w K mg base N qual (defScope st) f cdv A outer s H E) (defBody st) (tAny K)) : FnG P w K mg base 1 f fd ps (spD ⟨K, mg⟩ 2 f_any) := by
  refine fnG_of F S (fun vs H Q E h => ?_) (fun cdv A outer s H vs Q E hr h => ?_)
  · obtain ⟨dl, F, ds, hl, _, _, _, r, _⟩ := h
    rw [RpL.length r, hl, hp]
  · obtain ⟨dl, F, ds, hl, sf, dk, df, r, q⟩ := h
    refine ⟨tAny K, hb f cdv A outer s H E hr (passes_of rfl), ?_⟩
    unfold f_any at q
    split at q
    · rename_i b
      obtain ⟨⟨b0, b1⟩, q⟩ := q
      unfold RpL at r
      obtain ⟨v1, r', rfl, q1, r⟩ := r
      unfold RpL at r
      obtain ⟨v2, r'', rfl, q2, r⟩ := r
      unfold RpL at r
      unfold Rp at q1 q2
      obtain ⟨p, c, rfl, rfl⟩ := q1
      subst q2 r
      obtain ⟨ne, cs, m, h1, h2, h3, h4, h5, h6⟩ := dk p c rfl
      have ds0 : DS H H p c cs m := ⟨ne, h1, h2, h3, h4, h5, h6, fun _ _ z _ _ => z⟩
      refine any_sem (u := none) ds0 b0 b1 ?_ fun r H' cs' m' k0 k1 k => q r k0 k1 F H' (.int r) ?_ (Rp.int r)
      · unfold L2.start
        rw [hN]
        rfl
      · have off : ∀ y, Dl (some (p, c)) y ↔ y = p ∨ y = c := fun y => ⟨fun ⟨a, d, e, z⟩ => by cases e; exact z, fun z => ⟨p, c, rfl, z⟩⟩
        refine ⟨L2.Same.refl F, fun y o z => ?_, fun y o z n => ?_, fun y o z => .inl z, fun a d e => ?_⟩
        · have hn : ¬ Dl (some (p, c)) y := fun d => by rw [df y d] at z; cases z
          exact k.kp y o (sf y o z) (fun e => hn ((off y).mpr (.inl e))) fun e => hn ((off y).mpr (.inr e))
        · exact k.kp y o z (fun e => n ((off y).mpr (.inl e))) fun e => n ((off y).mpr (.inr e))
        · cases e
          exact ⟨k.ne, cs', m', k.hp, k.hc, k.len, k.pos, k.m0, k.m1⟩
    · exact q.elim
theorem cal_any {x qual : Str} {st : Stmt} {f : Addr} {fd : FuncData} {N ps : List Str} (F : Fun K x qual st f fd) (S : FnScope N ps (defScope st)) (hN : N.length = 3) (hp : ps.length = 2) (g : mg x = some (.ref f)) (b : Binds K fd ps [])
    (hb : ∀ (f : Addr) (cdv : Value) (A : Around) (outer : List Env) (s : Shared) (H : Hp) (E : XK), RG 0 (cxF P w K mg base N qual (defScope st) f cdv A outer s H E).A →
      PassesOwn (model P w) (cxF P w K mg base N qual (defScope st) f cdv A outer s H E).A (cxF P w K mg base N qual (defScope st) f cdv A outer s H E).env (cxF P w K mg base N qual (defScope st) f cdv A outer s H E).xe →
      PSs (cxF P w K mg base N qual (defScope st) f cdv A outer s H E) (defBody st) (tAny K)) : Cal P w K mg base 1 x 2 f_any := ⟨f, fd, ps, fn_any F S hN hp hb, g, F.kp, b⟩
end

/-! ### the deal made of a script -/
theorem cut63 (xs : List V) : cutV xs none (some 63) = xs.take 63 := by
  unfold cutV
  rw [show HT.sIx xs.length xs.length (some 63) = min 63 xs.length from HT.sIx_nat xs.length xs.length 63, HT.sIx_none, List.drop_zero, Nat.sub_zero]
  exact (List.take_eq_take_min ..).symm
theorem ints_rp {Z : Kx} {B : Bx} {F : Hp} : ∀ ns : List Int, RpLX Z B F (ns.map D.int) (ns.map V.int)
  | [] => RpL.nil
  | n :: ns => RpL.cons (Rp.int n) (ints_rp ns)
def wDeal (K : PySem.W.Frag) : TI := fun σ H R => tSl (rSlL K) (tVar 0) tNoPart (tPart (tC (.int 63))) σ H fun x H1 => ∃ a, x = .ref a ∧ ((∃ xs, SqL K H1 a xs) ∧ R (Itl K a) H1 ∨ (∃ xs, SqT K H1 a xs) ∧ R (Itt K a) H1)
def mIts (xs : List D) : Rho → R (List D) := fun _ => .ok xs
theorem wi_of {X : Cx} {B : Bx} {σ : L2.St} {H : Hp} {T : It → Hp → Prop} {a : Addr} {ns : List Int} (e0 : σ[0]? = some (some (.ref a))) (hS : SqL X.K H a (ns.map V.int))
    (h : yI X.kx B (mIts ((ns.take 63).map D.int)) σ H T) : wDeal X.K σ H T := by
  obtain ⟨F, ρ, ok, q⟩ := h
  refine ⟨.ref a, e0, 63, rfl, a, ns.map V.int, rfl, hS, fun p hp => ⟨p, rfl, ?_⟩⟩
  rw [cut63, ← List.map_take]
  refine .inl ⟨⟨_, .inl (.inl upd_same)⟩, ?_⟩
  exact q _ _ _ (.lay ok.fh ok.dk hp _) (wk_list upd_same (ints_rp _))
theorem frz_read {Z : Kx} {B : Bx} {σ : L2.St} {H : Hp} {Q : VK} {m : Rho → R (List D)} (h : yE Z B (mFrz m) σ H Q) : yO Z B m σ H Q := by
  obtain ⟨F, ρ, ok, q⟩ := h
  refine ⟨F, ρ, ok, R.all_imp (fun ds z => ?_) (fun _ z => z) (R.all_bind.mp q)⟩
  intro F' H' a vs e n1 n2 h1 r
  refine z (upd F' a (.lst vs)) H' (.ref a) ?_ ?_
  · refine ⟨e.ff.trans (same_upd n1), fun b o w => ?_, e.hh, fun b o w => ?_, e.dk⟩
    · by_cases q : b = a
      · subst q; rw [upd_same] at w; rw [← w]; exact h1
      · rw [upd_ne q] at w; exact e.fh b o w
    · by_cases q : b = a
      · subst q; exact .inr n2
      · rw [upd_ne q] at w; exact e.fr b o w
  · exact Rp.lst upd_same (RpL.mono (same_upd n1) _ _ r)
theorem lc_wi {X : Cx} {B : Bx} {σ : L2.St} {H : Hp} {Q : VK} {a : Addr} {ns : List Int} {ws : List Nat} {b : Bnd} {mt : Rho → R Bool} {me : Rho → R D} (e0 : σ[0]? = some (some (.ref a))) (hS : SqL X.K H a (ns.map V.int))
    (h : yO X.kx B (mComp ws (mIts ((ns.take 63).map D.int)) b mt me) σ H Q) : tLc (wDeal X.K) (yG X.kx B.blk ws b) (yT X.kx B.blk mt) (yE X.kx B.blk me) ws σ H Q := by
  have h2 := lc_read h
  unfold tLc at h2 ⊢
  exact wi_of e0 hS h2
theorem rp_ints {mg : Str → Option Value} {dl : DL} {F : Hp} : ∀ {ns : List Int} {vs : List V}, RpL mg dl F (ns.map D.int) vs → vs = ns.map V.int
  | [], vs, r => by
    unfold RpL at r
    exact r
  | n :: ns, vs, r => by
    unfold RpL at r
    obtain ⟨v, r', rfl, q, t⟩ := r
    unfold Rp at q
    rw [q, rp_ints t]
    rfl
def dCell : Rho → R D := mBi dAbs (mCons (mBi dInt (mCons (mVarB 4) mNil)) mNil)
def dm2 : Rho → R Out := mSet 3 (mBin dAdd (mBin dMul (mC (.int 52609)) (mVarB 1)) (mC (.int 977)))
def dm3b : Rho → R Out := mSet 3 (mBin dMod (mBi dInt (mCons (mBin dAdd (mBin dAdd (mBin dMul (mVarB 3) (mC (.int 40693))) (mBin dMod (mVarB 4) (mC (.int 2147483549)))) (mC (.int 59))) mNil)) (mC (.int 2147483647)))
def dm3 : Rho → R Out := mFor (mIter (mVar 2)) (bName 4) dm3b
def dm4t : Rho → R Bool := mTb (mBin dGe (mVarB 4) (mBin dPow (mC (.int 10)) (mC (.int 18))))
def dm4 : Rho → R (List D) := mComp [4] (mIter (mVar 2)) (bName 4) dm4t (mVar 4)
def tDeal (Z : Kx) (B : Bx) : TS := tSeq (tAsg (tLc (wDeal Z.K) (yG Z B.blk [4] (bName 4)) (yT Z B.blk mYes) (yE Z B.blk dCell) [4]) (gName 2))
  (tSeq (yS Z B dm2) (tSeq (yS Z B dm3) (tRet (tLst (tCons (yO Z B (mRevL (mFrz dm4))) (tCons (yE Z B (mVar 3)) tNil))))))
theorem deal_ok {Z : Kx} {W : WX} {F H : Hp} {v : V} {base : Int} (sf : Same F H) : Ok Z ⟨none, F, H, W, 0, none⟩ F H [some v, some (.int base), none, none, none] [.no, .sh (.int base), .no, .no, .no] := by
  have dk : DealOk none H := fun a c e => nomatch e
  refine ⟨.refl sf dk, fun b ⟨_, _, e, _⟩ => (nomatch e), dk, rfl, fun i s e => ?_, fun i j ds es a ne e1 e2 e3 e4 => ?_⟩
  · match i, e with
    | 0, e => cases e; trivial
    | 1, e => cases e; exact ⟨_, rfl, Rp.int base⟩
    | 2, e => cases e; trivial
    | 3, e => cases e; trivial
    | 4, e => cases e; trivial
  · match i, e1 with
    | 0, e => cases e
    | 1, e => cases e
    | 2, e => cases e
    | 3, e => cases e
    | 4, e => cases e
theorem deal_sem {X : Cx} {W : WX} {F H : Hp} {a : Addr} {ns : List Int} {base : Int} {D : Ends} (sf : Same F H) (hS : SqL X.K H a (ns.map V.int))
    (q : ∀ (F' H' : Hp) (p c : Addr) (cs : List Int) (m : Int), Ext none F H F' H' → F' p = none → F' c = none → p ≠ c → H' p = some (.lst [.ref c, .int m]) → H' c = some (.lst (cs.map V.int)) → cs.length ≤ 63 → (∀ x ∈ cs, 0 ≤ x) → 0 ≤ m → m < 2147483647 → D.rt (.ref p) H')
    (hb : 0 ≤ base) (hb2 : base < 40000) : tDeal X.kx ⟨none, F, H, W, 0, none⟩ D [some (.ref a), some (.int base), none, none, none] H := by
  have ok0 := deal_ok (Z := X.kx) (W := W) (v := .ref a) (base := base) sf
  obtain ⟨xs, ex⟩ : ∃ xs, xs = (ns.take 63).map Y.D.int := ⟨_, rfl⟩
  obtain ⟨cs, ec⟩ : ∃ cs : List Int, cs = (ns.take 63).map fun i => if i < 0 then -i else i := ⟨_, rfl⟩
  have lc : cs.length ≤ 63 := by rw [ec, List.length_map, List.length_take]; exact Nat.min_le_left _ _
  have pc : ∀ x ∈ cs, 0 ≤ x := fun x hx => by
    rw [ec] at hx
    obtain ⟨i, _, rfl⟩ := List.mem_map.mp hx
    show 0 ≤ if i < 0 then -i else i
    split <;> omega
  have e1 : mFrz (mComp [4] (mIts xs) (bName 4) mYes dCell) [.no, .sh (.int base), .no, .no, .no] = .ok (.lst (cs.map Y.D.int)) := by
    have h : cLoop (bName 4) mYes dCell (wipeR [.no, .sh (.int base), .no, .no, .no] [4]) xs = .ok (xs.map fun d => match d with
        | .int i => .int (if i < 0 then -i else i)
        | d => d) := cLoop_map _ xs fun x hx => by
      rw [ex] at hx
      obtain ⟨i, _, rfl⟩ := List.mem_map.mp hx
      exact ⟨_, rfl, rfl, rfl⟩
    unfold mFrz mComp mIts
    rw [R.bind_ok]
    have hl : xs.length ≤ 16777216 := by rw [ex, List.length_map, List.length_take]; omega
    unfold R.grd
    rw [if_pos hl, h, R.bind_ok, ex, ec, List.map_map, List.map_map]
    rfl
  show tLc (wDeal X.K) (yG X.kx (Bx.blk ⟨none, F, H, W, 0, none⟩) [4] (bName 4)) (yT X.kx (Bx.blk ⟨none, F, H, W, 0, none⟩) mYes) (yE X.kx (Bx.blk ⟨none, F, H, W, 0, none⟩) dCell) [4] _ H (fun x H1 => gName 2 x [some (.ref a), some (.int base), none, none, none] H1 (tSeq (yS X.kx ⟨none, F, H, W, 0, none⟩ dm2) (tSeq (yS X.kx ⟨none, F, H, W, 0, none⟩ dm3) (tRet (tLst (tCons (yO X.kx ⟨none, F, H, W, 0, none⟩ (mRevL (mFrz dm4))) (tCons (yE X.kx ⟨none, F, H, W, 0, none⟩ (mVar 3)) tNil))))) D))
  refine lc_wi rfl hS (frz_read ⟨F, _, ok0, ?_⟩)
  rw [← ex, e1]
  intro F1 H1 v x1 r1
  have ok1 := (ok0.step x1).sh r1 2
  refine ⟨F1, _, ok1, ?_⟩
  intro F2 H2 σ2 s2 ok2
  refine ⟨F2, _, ok2, ?_⟩
  refine R.all_imp (P := fun o => ∃ m d, o = .next [.no, .sh (.int base), .sh (.lst (cs.map Y.D.int)), .sh (.int m), d] ∧ 0 ≤ m ∧ m < 2147483647) (E := fun _ => False) (fun o z => ?_) (fun _ z => z) ?_
  · obtain ⟨m, d, rfl, m0, m1⟩ := z
    intro F3 H3 σ3 s3 ok3
    refine ⟨F3, _, ok3, ?_⟩
    have e4 : mRevL (mFrz dm4) [.no, .sh (.int base), .sh (.lst (cs.map Y.D.int)), .sh (.int m), d] = .ok (((cs.filter fun i => decide ((10 : Int) ^ 18 ≤ i)).reverse).map Y.D.int) := by
      have h : cLoop (bName 4) dm4t (mVar 4) (wipeR [.no, .sh (.int base), .sh (.lst (cs.map Y.D.int)), .sh (.int m), d] [4]) (cs.map Y.D.int) = .ok ((((cs.map Y.D.int).filter fun d => match d with
          | .int i => decide ((10 : Int) ^ 18 ≤ i)
          | _ => false)).map id) := cLoop_filter _ id _ fun x hx => by
        obtain ⟨i, _, rfl⟩ := List.mem_map.mp hx
        exact ⟨_, rfl, rfl, fun _ => rfl⟩
      have hl : (cs.map Y.D.int).length ≤ 16777216 := by rw [List.length_map]; omega
      have e5 : dm4 [.no, .sh (.int base), .sh (.lst (cs.map Y.D.int)), .sh (.int m), d] = R.grd ((cs.map Y.D.int).length ≤ 16777216) (cLoop (bName 4) dm4t (mVar 4) (wipeR [.no, .sh (.int base), .sh (.lst (cs.map Y.D.int)), .sh (.int m), d] [4]) (cs.map Y.D.int)) := rfl
      unfold mRevL mFrz
      rw [e5]
      unfold R.grd
      rw [if_pos hl, h, R.bind_ok, R.bind_ok, List.map_id, List.filter_map, List.map_reverse]
      rfl
    rw [e4]
    intro F4 H4 c vs x4 n1 n2 h1 r4
    have ok4 := ok3.step x4
    refine ⟨F4, _, ok4, ?_⟩
    intro F5 H5 v5 x5 r5
    unfold RpX Rp at r5
    subst r5
    have ok5 := ok4.step x5
    refine ⟨by show 2 ≤ sizeLine; decide, fun p hp => ?_⟩
    have hc5 := x5.hh c _ h1 fun ⟨_, _, e, _⟩ => nomatch e
    have ne : p ≠ c := fun e => by rw [e, hc5] at hp; cases hp
    refine q F5 _ p c (cs.filter fun i => decide ((10 : Int) ^ 18 ≤ i)).reverse m (ok5.ext.trans (.own ok5.fh ok5.dk hp _)) (same_none ok5.fh hp) (x5.none_of n1 h1) ne upd_same ?_ ?_ ?_ m0 m1
    · rw [upd_ne (Ne.symm ne), hc5, rp_ints r4]
    · rw [List.length_reverse]
      exact Nat.le_trans (List.length_filter_le ..) lc
    · intro x hx
      exact pc x (List.mem_filter.mp (List.mem_reverse.mp hx)).1
  · refine fLoop_all0 (fun i ρ => ∃ m d, ρ = [.no, .sh (.int base), .sh (.lst (cs.map Y.D.int)), .sh (.int m), d] ∧ 0 ≤ m ∧ m < 2147483647) ?_ ?_ ?_
    · exact ⟨_, _, rfl, by omega, by omega⟩
    · rintro i x ρ hx ⟨m, d, rfl, m0, m1⟩
      rw [List.getElem?_map] at hx
      cases hc : cs[i]? with
      | none => rw [hc] at hx; cases hx
      | some c =>
        rw [hc] at hx
        cases hx
        have hm : small64 m ∨ small64 40693 := .inr (by decide)
        have e5 : turnM (bName 4) dm3b (.int c) [.no, .sh (.int base), .sh (.lst (cs.map Y.D.int)), .sh (.int m), d] = R.ok (.next [.no, .sh (.int base), .sh (.lst (cs.map Y.D.int)), .sh (.int ((m * 40693 + c % 2147483549 + 59) % 2147483647)), .sh (.int c)]) := by
          have e6 : dMul (.int m) (.int 40693) = .ok (.int (m * 40693)) := by
            exact if_pos hm
          simp [turnM, bName, dm3b, mSet, mBin, mBi, mCons, mNil, mVarB, mC, e6, dMod, dAdd, dInt, R.grd]
        rw [e5]
        exact ⟨_, _, rfl, Int.emod_nonneg _ (by decide), Int.emod_lt_of_pos _ (by decide)⟩
    · rintro ρ ⟨m, d, rfl, m0, m1⟩
      exact ⟨m, d, rfl, m0, m1⟩
end Y
/-! # Y17 -/
set_option Elab.async false
set_option linter.all false
set_option maxRecDepth 100000
set_option maxHeartbeats 4000000
namespace Y
open PySem PySem.Spec L2

/-! ### the deal, the law -/
def spDeal (K : PySem.W.Frag) : Sp := fun vs H Q _ => ∃ (a : Addr) (base : Int) (ns : List Int) (F : Hp), vs = [.ref a, .int base] ∧ Same F H ∧ SqL K H a (ns.map V.int) ∧ 0 ≤ base ∧ base < 40000 ∧
  ∀ (F' H' : Hp) (p c : Addr) (cs : List Int) (m : Int), Ext none F H F' H' → F' p = none → F' c = none → p ≠ c → H' p = some (.lst [.ref c, .int m]) → H' c = some (.lst (cs.map V.int)) → cs.length ≤ 63 → (∀ x ∈ cs, 0 ≤ x) → 0 ≤ m → m < 2147483647 → Q (.ref p) H'
def spLaw (K : PySem.W.Frag) : Sp := fun vs H Q _ => ∃ (a : Addr) (ns : List Int), vs = [.ref a] ∧ SqL K H a (ns.map V.int) ∧ ∀ H', Q (.bl true) H'
section
variable {P : Program} {w : World} {K : PySem.W.Frag} {mg : Str → Option Value} {base : Heap}
theorem fn_deal {x qual : Str} {st : Stmt} {f : Addr} {fd : FuncData} {N ps : List Str} (F : Fun K x qual st f fd) (S : FnScope N ps (defScope st)) (hN : N.length = 5) (hp : ps.length = 2)
    (hb : ∀ (f : Addr) (cdv : Value) (A : Around) (outer : List Env) (s : Shared) (H : Hp) (E : XK) (B : Bx), RG 0 (cxF P w K mg base N qual (defScope st) f cdv A outer s H E).A →
      Takes (cxF P w K mg base N qual (defScope st) f cdv A outer s H E) B.W →
      PassesOwn (model P w) (cxF P w K mg base N qual (defScope st) f cdv A outer s H E).A (cxF P w K mg base N qual (defScope st) f cdv A outer s H E).env (cxF P w K mg base N qual (defScope st) f cdv A outer s H E).xe →
      PSs (cxF P w K mg base N qual (defScope st) f cdv A outer s H E) (defBody st) (tDeal ⟨K, mg⟩ B)) : FnG P w K mg base 1 f fd ps (spDeal K) := by
  refine fnG_of F S (fun vs H Q E h => ?_) (fun cdv A outer s H vs Q E hr h => ?_)
  · obtain ⟨a, b, ns, F, rfl, _⟩ := h
    exact hp.symm
  · obtain ⟨a, b, ns, F, rfl, sf, hS, b0, b1, q⟩ := h
    refine ⟨_, hb f cdv A outer s H E ⟨none, F, H, fun c o _ H => E c o H, 0, none⟩ hr (takes_of rfl rfl rfl rfl) (passes_of rfl), ?_⟩
    have es : L2.start N [V.ref a, V.int b] = [some (.ref a), some (.int b), none, none, none] := by
      unfold L2.start
      rw [hN]
      rfl
    rw [es]
    exact deal_sem (X := cxF P w K mg base N qual (defScope st) f cdv A outer s H E) sf hS q b0 b1
theorem law_y {x qual : Str} {st s1 : Stmt} {rest : List Stmt} {f : Addr} {fd : FuncData} {N ps : List Str} {k : Nat} {bs : Int} {mb : Rho → R Out} (F : Fun K x qual st f fd) (S : FnScope N ps (defScope st)) (hp : ps.length = 1) (hN : 2 ≤ N.length) (hb0 : 0 ≤ bs) (hb1 : bs < 40000) (eb : defBody st = s1 :: rest)
    (h1 : ∀ (f : Addr) (cdv : Value) (A : Around) (outer : List Env) (s : Shared) (H : Hp) (E : XK), RG k (cxF P w K mg base N qual (defScope st) f cdv A outer s H E).A → Takes (cxF P w K mg base N qual (defScope st) f cdv A outer s H E) (fun c o _ H => E c o H) →
      PS (cxF P w K mg base N qual (defScope st) f cdv A outer s H E) s1 (tAsg (tCallS (spDeal K) (WE fun c o _ H => E c o H) (tCons (tVar 0) (tCons (tC (.int bs)) tNil))) (gName 1)))
    (h2 : ∀ (f : Addr) (cdv : Value) (A : Around) (outer : List Env) (s : Shared) (H : Hp) (E : XK) (B : Bx), RG k (cxF P w K mg base N qual (defScope st) f cdv A outer s H E).A → Takes (cxF P w K mg base N qual (defScope st) f cdv A outer s H E) B.W →
      PassesOwn (model P w) (cxF P w K mg base N qual (defScope st) f cdv A outer s H E).A (cxF P w K mg base N qual (defScope st) f cdv A outer s H E).env (cxF P w K mg base N qual (defScope st) f cdv A outer s H E).xe →
      PSs (cxF P w K mg base N qual (defScope st) f cdv A outer s H E) rest (yS ⟨K, mg⟩ B mb))
    (math : (mb (.no :: .sh .deal :: List.replicate (N.length - 2) .no)).all (fun o => o = .ret (.bl true)) (fun _ => False)) : FnG P w K mg base (k + 1) f fd ps (spLaw K) := by
  refine fnG_of F S (fun vs H Q E h => ?_) (fun cdv A outer s H vs Q E hr h => ?_)
  · obtain ⟨a, ns, rfl, _⟩ := h
    exact hp.symm
  · obtain ⟨a, ns, rfl, hS, q⟩ := h
    have hr' : RG k (cxF P w K mg base N qual (defScope st) f cdv A outer s H E).A := hr
    have pt : PSs (cxF P w K mg base N qual (defScope st) f cdv A outer s H E) rest (fun D σ H1 => ∃ dl F0 H0, yS ⟨K, mg⟩ ⟨dl, F0, H0, fun c o _ H => E c o H, 0, none⟩ mb D σ H1) :=
      ⟨fun pins s' σ H1 D I ⟨dl, F0, H0, q⟩ => (h2 f cdv A outer s H E ⟨dl, F0, H0, fun c o _ H => E c o H, 0, none⟩ hr' (takes_of rfl rfl rfl rfl) (passes_of rfl)).run pins s' σ H1 D I q⟩
    refine ⟨_, by rw [eb]; exact pss_cons (h1 f cdv A outer s H E hr' (takes_of rfl rfl rfl rfl)) pt, ?_⟩
    refine ⟨.ref a, by unfold L2.start; rfl, a, bs, ns, fun _ => none, rfl, (fun b o e => nomatch e), hS, hb0, hb1, fun F' H' p c cs m e n1 n2 ne g1 g2 g3 g4 g5 g6 => ?_⟩
    have dk : DealOk (some (p, c)) H' := fun a d e => by
      cases e
      exact ⟨ne, cs, m, g1, g2, g3, g4, g5, g6⟩
    have df : ∀ b, Dl (some (p, c)) b → F' b = none := fun b ⟨a', d, e, z⟩ => by
      cases e
      rcases z with rfl | rfl
      · exact n1
      · exact n2
    obtain ⟨r, er⟩ : ∃ r, N.length = r + 2 := ⟨N.length - 2, by omega⟩
    have es : (L2.start N [V.ref a]).set 1 (some (.ref p)) = some (.ref a) :: some (.ref p) :: List.replicate r none := by
      unfold L2.start
      rw [show N.length - [V.ref a].length = r + 1 by rw [er]; rfl]
      rfl
    refine ⟨some (p, c), F', H', F', _, ?_, R.all_imp (fun o z => ?_) (fun _ z => z) math⟩
    · rw [es, er, Nat.add_sub_cancel]
      refine ⟨.refl e.fh dk, df, dk, by simp, fun i s e => ?_, fun i j ds es a ne e1 e2 e3 e4 => ?_⟩
      · match i, e with
        | 0, e => cases e; trivial
        | 1, e =>
          cases e
          exact ⟨.ref p, rfl, p, c, rfl, rfl⟩
        | i + 2, e =>
          have e' : (List.replicate r Sl.no)[i]? = some s := e
          rw [List.getElem?_replicate] at e'
          split at e'
          · cases e'; trivial
          · cases e'
      · match i, e1 with
        | 0, e => cases e
        | 1, e => cases e
        | i + 2, e =>
          have e' : (List.replicate r Sl.no)[i]? = some (.ow ds) := e
          rw [List.getElem?_replicate] at e'
          split at e' <;> cases e'
    · subst z
      intro F2 H2 v x r
      unfold RpX Rp at r
      subst r
      exact q H2
end
end Y
/-! # Y18 -/
set_option Elab.async false
set_option linter.all false
set_option maxRecDepth 100000
set_option maxHeartbeats 4000000
namespace Y
open PySem PySem.Spec L2

/-! ### a def of the text, as the module's head has left it -/
def Has (K : PySem.W.Frag) (x : Str) (st : Stmt) : Prop := ∃ (f : Addr) (fd : FuncData), PySem.W.nsIn K mainGlobals x = some (some (.ref f)) ∧ Fun K x x st f fd
theorem has_mk {K : PySem.W.Frag} {x : Str} {st : Stmt} {f : Addr} {oc : Value} {od an : Option Addr} {osl : Array (Option Value)} {kV doc pm cdv ct : Value} (a : PySem.W.nsIn K mainGlobals x = some (some (.ref f)))
    (l : K.lookup f = some ⟨oc, od, .func (PySem.W.fnOf x x (defArgs st) (defBody st) (defScope st) .none kV doc pm an cdv ct), osl⟩) (c : PySem.W.codeIn K cdv x = true) (k : PySem.W.keepIn K (.ref f) = true) : Has K x st := ⟨f, _, a, fun_mk l c k⟩
theorem _root_.L2.Fun.bind1 {K : PySem.W.Frag} {x qual p : Str} {st : Stmt} {f : Addr} {fd : FuncData} (F : Fun K x qual st f fd)
    (h : ∀ (kV doc pm : Value) (an : Option Addr) (cdv ct : Value) (u : Value), bindArgs (PySem.W.fnOf x qual (defArgs st) (defBody st) (defScope st) .none kV doc pm an cdv ct) ⟨[u], []⟩ = pure [(p, u)]) (s : Shared) (u : Value) : BindsTo s fd ⟨[u], []⟩ [(p, u)] := by
  obtain ⟨oc, od, kV, doc, pm, an, cdv, ct, osl, rfl, _, _⟩ := F.ex
  exact .of_eq (h kV doc pm an cdv ct u)
end Y
/-! # Y20 -/
set_option Elab.async false
set_option linter.all false
set_option maxRecDepth 100000
set_option maxHeartbeats 4000000
namespace Y
open PySem PySem.Spec L2
open PyProof.Rows hiding St

/-! ### objects of the text's classes: their attributes -/
/-- what the text's head has left of a class -/
structure ClsY (Z : Kx) (n : Nat) : Prop where
  ex : ∃ C, Z.mg (clsTab n).1 = some (.ref C) ∧ Cls Z.K C ∧ ∀ f ∈ (clsTab n).2, NoAttr Z.K C f
  nd : (clsTab n).2.Nodup
def getD (ds : List D) (i : Nat) : R D := match ds[i]? with
  | some d => .ok d
  | none => .stuck
/-- the attribute at place i of an object of class n -/
def dFld (n i : Nat) : D → R D
  | .obj c ds => if c = n then getD ds i else .stuck
  | _ => .stuck
theorem look_at : ∀ {fs : List (Str × V)} {i : Nat} {f : Str} {v : V}, (fs.map (·.1)).Nodup → fs[i]? = some (f, v) → fs.lookup f = some v
  | [], i, f, v, _, h => by simp at h
  | p :: fs, 0, f, v, _, h => by
    simp at h
    subst h
    simp [List.lookup]
  | (g, w) :: fs, i + 1, f, v, nd, h => by
    simp at h
    rw [List.map_cons, List.nodup_cons] at nd
    have hm : f ∈ fs.map (·.1) := List.mem_map.mpr ⟨(f, v), List.mem_of_getElem? h, rfl⟩
    have ne : f ≠ g := fun e => nd.1 (by rw [← e]; exact hm)
    have e : (f == g) = false := by simpa using ne
    rw [List.lookup, e]
    exact look_at nd.2 h
theorem look_no {fs : List (Str × V)} {f : Str} (h : f ∉ fs.map (·.1)) : fs.lookup f = none := by
  induction fs with
  | nil => rfl
  | cons p fs ih =>
    obtain ⟨g, w⟩ := p
    rw [List.map_cons] at h
    have ne : f ≠ g := fun e => h (by rw [e]; exact List.mem_cons_self)
    have e : (f == g) = false := by simpa using ne
    rw [List.lookup, e]
    exact ih fun z => h (List.mem_cons_of_mem _ z)
theorem fld_at {Z : Kx} {dl : DL} {F : Hp} {n i : Nat} {f : Str} {ds : List D} {d : D} {fs : List (Str × V)} (nd : (clsTab n).2.Nodup) (hf : (clsTab n).2[i]? = some f) (ek : fs.map (·.1) = (clsTab n).2.take ds.length) (r : RpL Z.mg dl F ds (fs.map (·.2))) (h : ds[i]? = some d) :
    ∃ v, fs.lookup f = some v ∧ Rp Z.mg dl F d v := by
  obtain ⟨v, ev, rv⟩ := RpL.get r h
  refine ⟨v, look_at (i := i) (by rw [ek]; exact nd.sublist (List.take_sublist _ _)) ?_, rv⟩
  have hl : i < ds.length := (List.getElem?_eq_some_iff.mp h).1
  rw [List.getElem?_map] at ev
  have e1 : (fs.map (·.1))[i]? = some f := by rw [ek, List.getElem?_take_of_lt hl]; exact hf
  rw [List.getElem?_map] at e1
  cases hp : fs[i]? with
  | none => rw [hp] at ev; cases ev
  | some p =>
    rw [hp] at ev e1
    cases ev
    cases e1
    rfl
section
variable {X : Cx} {B : Bx} {e o : Expr} {pos apos : Pos} {m mo : Rho → R D} {f : Str}
theorem RpB.obj {Z : Kx} {B : Bx} {F H : Hp} {c : Nat} {ds : List D} {v : V} (r : RpB Z B F H (.obj c ds) v) : ∃ a C dx fs, v = .ref a ∧ Z.mg (clsTab c).1 = some (.ref C) ∧ F a = some (.ins C dx fs) ∧ fs.map (·.1) = (clsTab c).2.take ds.length ∧ RpLX Z B F ds (fs.map (·.2)) := by
  rcases r with r | ⟨_, _, _, w, _⟩
  · unfold RpX Rp at r
    exact r
  · cases w
theorem ce_fld (n i : Nat) (hc : ClsY X.kx n) (he : PE X e (yB X.kx B m)) (hf : (clsTab n).2[i]? = some f := by rfl) (hb : attributeBase e f X.env (eval e X.env) = eval e X.env := by rfl) : PE X (.Attribute e f pos) (yE X.kx B (mUn (dFld n i) m)) :=
  pe_imp (pe_fld he hb) fun σ H Q ⟨F, ρ, ok, q⟩ => seqB ok q fun d F' H' v e1 r q1 => by
    have k := ok.step e1
    obtain ⟨⟨C, hC, cl, na⟩, nd⟩ := hc
    unfold dFld at q1
    split at q1
    · rename_i c ds
      split at q1
      · rename_i ec
        subst ec
        unfold getD at q1
        split at q1
        · rename_i d' ed
          obtain ⟨a, C', dx, fs, rfl, hC', h1, ek, rl⟩ := r.obj
          rw [hC] at hC'
          cases hC'
          obtain ⟨w, ew, rw'⟩ := fld_at nd hf ek rl ed
          exact ⟨a, C, dx, fs, w, rfl, k.fh _ _ h1, cl, na f (List.mem_of_getElem? hf), ew, q1 F' H' w e1 rw'⟩
        · exact q1.elim
      · exact q1.elim
    · exact q1.elim
/-! the object that is being made: slot i -/
def mFldS (i n j : Nat) : Rho → R D := fun ρ => match ρ[i]? with
  | some (.me c ds) => if c = n then getD ds j else .stuck
  | some (.sh d) => dFld n j d
  | _ => .stuck
theorem ce_fldS (i n j : Nat) {x : Str} {p : Pos} (hc : ClsY X.kx n) (hf : (clsTab n).2[j]? = some f := by rfl) (hN : X.N[i]? = some x := by rfl) (hv : Vis X.env.scope x := by first | exact Or.inl rfl | exact Or.inr (Or.inl rfl) | exact Or.inr (Or.inr rfl)) (hd : (x == ("__debug__" : Str)) = false := by decide)
    (hcd : (x == ("__classdict__" : Str)) = false := by decide) (hb : attributeBase (.Name x p) f X.env (eval (.Name x p) X.env) = eval (.Name x p) X.env := by rfl) : PE X (.Attribute (.Name x p) f pos) (yE X.kx B (mFldS i n j)) :=
  pe_imp (pe_fld (pe_var hN hv hd hcd) hb) fun σ H Q ⟨F, ρ, ok, q⟩ => by
    obtain ⟨⟨C, hC, cl, na⟩, nd⟩ := hc
    unfold mFldS at q
    split at q
    · rename_i c ds e0
      split at q
      · rename_i ec
        subst ec
        unfold getD at q
        split at q
        · rename_i d' ed
          obtain ⟨a, C', dx, fs, ea, ow, hC', h1, ek, rl⟩ := ok.sl i _ e0
          rw [hC] at hC'
          cases hC'
          obtain ⟨w, ew, rw'⟩ := fld_at nd hf ek rl ed
          exact ⟨.ref a, ea, a, C, dx, fs, w, rfl, h1, cl, na f (List.mem_of_getElem? hf), ew, q F H w (.refl ok.fh ok.dk) rw'⟩
        · exact q.elim
      · exact q.elim
    · rename_i d e0
      obtain ⟨v, ea, r⟩ := ok.sl i _ e0
      unfold dFld at q
      split at q
      · rename_i c ds
        split at q
        · rename_i ec
          subst ec
          unfold getD at q
          split at q
          · rename_i d' ed
            unfold RpX Rp at r
            obtain ⟨a, C', dx, fs, rfl, hC', h1, ek, rl⟩ := r
            rw [hC] at hC'
            cases hC'
            obtain ⟨w, ew, rw'⟩ := fld_at nd hf ek rl ed
            exact ⟨.ref a, ea, a, C, dx, fs, w, rfl, ok.fh _ _ h1, cl, na f (List.mem_of_getElem? hf), ew, q F H w (.refl ok.fh ok.dk) rw'⟩
          · exact q.elim
        · exact q.elim
      · exact q.elim
    · exact q.elim
/-- the new attributes of an object that is being made -/
def putA (ds : List D) (j : Nat) (d : D) : R (List D) := if j = ds.length then .ok (ds ++ [d]) else if j < ds.length then .ok (ds.set j d) else .stuck
theorem putF_new {f : Str} {y : V} : ∀ {fs : List (Str × V)}, f ∉ fs.map (·.1) → putF f y fs = fs ++ [(f, y)]
  | [], _ => rfl
  | (g, w) :: fs, h => by
    rw [List.map_cons] at h
    have ne : ¬ g = f := fun e => h (by rw [e]; exact List.mem_cons_self)
    rw [putF, if_neg ne, putF_new fun z => h (List.mem_cons_of_mem _ z)]
    rfl
theorem putF_at {f : Str} {y : V} : ∀ {fs : List (Str × V)} {j : Nat}, (fs.map (·.1)).Nodup → (fs.map (·.1))[j]? = some f → putF f y fs = fs.set j (f, y)
  | [], j, _, h => by simp at h
  | (g, w) :: fs, 0, _, h => by
    simp at h
    subst h
    rw [putF, if_pos rfl]
    rfl
  | (g, w) :: fs, j + 1, nd, h => by
    rw [List.map_cons, List.nodup_cons] at nd
    rw [List.map_cons, List.getElem?_cons_succ] at h
    have ne : ¬ g = f := fun e => nd.1 (by rw [e]; exact List.mem_of_getElem? h)
    rw [putF, if_neg ne, putF_at nd.2 h]
    rfl
theorem putA_ok {Z : Kx} {dl : DL} {F : Hp} {n j : Nat} {f : Str} {ds es : List D} {d : D} {y : V} {fs : List (Str × V)} (nd : (clsTab n).2.Nodup) (hf : (clsTab n).2[j]? = some f) (ek : fs.map (·.1) = (clsTab n).2.take ds.length) (r : RpL Z.mg dl F ds (fs.map (·.2)))
    (ry : Rp Z.mg dl F d y) (h : putA ds j d = .ok es) : (putF f y fs).map (·.1) = (clsTab n).2.take es.length ∧ RpL Z.mg dl F es ((putF f y fs).map (·.2)) ∧ es.length ≤ ds.length + 1 := by
  have nds : (fs.map (·.1)).Nodup := by rw [ek]; exact nd.sublist (List.take_sublist _ _)
  have hj : j < (clsTab n).2.length := (List.getElem?_eq_some_iff.mp hf).1
  unfold putA at h
  split at h
  · rename_i ej
    cases h
    have nf : f ∉ fs.map (·.1) := fun z => by
      rw [ek] at z
      obtain ⟨i, hi⟩ := List.mem_iff_getElem?.mp z
      have hl : i < ds.length := by
        have := (List.getElem?_eq_some_iff.mp hi).1
        rw [List.length_take] at this
        omega
      rw [List.getElem?_take_of_lt hl] at hi
      have := (List.getElem?_inj (by omega) nd).mp (hi.trans hf.symm)
      omega
    rw [putF_new nf, List.map_append, List.map_append, List.length_append]
    refine ⟨?_, RpL.append r (RpL.cons ry RpL.nil), Nat.le_refl _⟩
    rw [ek]
    show _ ++ [f] = (clsTab n).2.take (ds.length + 1)
    rw [List.take_add_one, ← ej, hf]
    rfl
  · split at h
    · rename_i hl
      cases h
      have e1 : (fs.map (·.1))[j]? = some f := by rw [ek, List.getElem?_take_of_lt hl]; exact hf
      rw [putF_at nds e1, List.map_set, List.map_set, List.length_set]
      refine ⟨?_, RpL.set ry j r, Nat.le_succ _⟩
      rw [← ek]
      exact List.ext_getElem? fun i => by
        rw [List.getElem?_set]
        split
        · rename_i ei
          subst ei
          split
          · exact e1.symm
          · rename_i hn
            exact absurd ((List.getElem?_eq_some_iff.mp e1).1) hn
        · rfl
    · cases h
/-- the object that is being made is changed -/
theorem Ok.mutMe {Z : Kx} {F H : Hp} {σ : L2.St} {ρ : Rho} (k : Ok Z B F H σ ρ) {i c : Nat} {ds ds' : List D} {a C dx : Addr} {fs fs' : List (Str × V)} (e : ρ[i]? = some (.me c ds)) (ea : σ[i]? = some (some (.ref a))) (hC : Z.mg (clsTab c).1 = some (.ref C)) (h0 : H a = some (.ins C dx fs))
    (ek : fs'.map (·.1) = (clsTab c).2.take ds'.length) (r : RpLX Z B F ds' (fs'.map (·.2))) (uniq : ∀ j c' es, j ≠ i → ρ[j]? = some (.me c' es) → σ[j]? ≠ some (some (.ref a))) : Ok Z B F (upd H a (.ins C dx fs')) σ (ρ.set i (.me c ds')) := by
  obtain ⟨a', C', dx', fs0, ea', ⟨⟨o1, o2, o3⟩, ox⟩, hC', h1, ek1, r1⟩ := k.sl i _ e
  rw [ea] at ea'
  cases ea'
  refine ⟨⟨k.ext.ff, fun b o w => ?_, fun b o w n => ?_, k.ext.fr, k.ext.dk.upd o3⟩, k.df, k.dk0, by rw [List.length_set]; exact k.len, fun j s e' => ?_, fun j l ds es b ne e1 e2 e3 e4 => ?_⟩
  · rw [upd_ne (fun z => by subst z; rw [o1] at w; cases w)]
    exact k.fh b o w
  · rw [upd_ne (fun z => by subst z; rw [o2] at w; cases w)]
    exact k.ext.hh b o w n
  · by_cases h : i = j
    · subst h
      rw [List.getElem?_set] at e'
      simp only [if_true] at e'
      split at e'
      · cases e'
        exact ⟨a, C, dx, fs', ea, ⟨⟨o1, o2, o3⟩, ox⟩, hC, upd_same, ek, r⟩
      · cases e'
    · rw [List.getElem?_set_ne h] at e'
      cases s with
      | no => trivial
      | ex n es => exact k.sl j _ e'
      | sh d => exact k.sl j _ e'
      | ow es =>
        obtain ⟨b, ws, e5, p, q, r2⟩ := k.sl j _ e'
        refine ⟨b, ws, e5, p, ?_, r2⟩
        rw [upd_ne (fun z => by
          subst z
          rw [h0] at q
          cases q)]
        exact q
      | me c' es =>
        obtain ⟨b, C2, dx2, fs2, e5, p, g, q, ek2, r2⟩ := k.sl j _ e'
        refine ⟨b, C2, dx2, fs2, e5, p, g, ?_, ek2, r2⟩
        rw [upd_ne (fun z => by
          subst z
          exact uniq j c' es (Ne.symm h) e' e5)]
        exact q
      | dc kvs =>
        obtain ⟨b, vs2, e5, p, q, ek2, r2⟩ := k.sl j _ e'
        refine ⟨b, vs2, e5, p, ?_, ek2, r2⟩
        rw [upd_ne (fun z => by
          subst z
          rw [h0] at q
          cases q)]
        exact q
  · have w1 : i ≠ j := fun z => by
      subst z
      rw [List.getElem?_set] at e1
      simp only [if_true] at e1
      split at e1 <;> cases e1
    have w2 : i ≠ l := fun z => by
      subst z
      rw [List.getElem?_set] at e2
      simp only [if_true] at e2
      split at e2 <;> cases e2
    rw [List.getElem?_set_ne w1] at e1
    rw [List.getElem?_set_ne w2] at e2
    exact k.inj j l _ _ b ne e1 e2 e3 e4

/-- no object is being made here -/
def noMe : List Sl → Bool
  | [] => true
  | .me _ _ :: _ => false
  | _ :: r => noMe r
theorem noMe_at : ∀ {ρ : List Sl} {j c : Nat} {es : List D}, noMe ρ = true → ρ[j]? = some (.me c es) → False
  | [], j, c, es, _, h => by simp at h
  | s :: ρ, 0, c, es, n, h => by
    simp at h
    subst h
    cases n
  | s :: ρ, j + 1, c, es, n, h => by
    simp at h
    refine noMe_at (ρ := ρ) ?_ h
    cases s with
    | me c ds => cases n
    | ex c ds => exact n
    | dc kvs => exact n
    | no => exact n
    | sh d => exact n
    | ow ds => exact n
/-- self.f = e, f at place j -/
def mSelf (i n j : Nat) (m : Rho → R D) : Rho → R Out := fun ρ => lift ρ (m ρ) fun d => match ρ[i]? with
  | some (.me c ds) => R.grd (c = n ∧ noMe (ρ.set i .no) = true ∧ ds.length < 900) (lift ρ (putA ds j d) fun es => .ok (.next (ρ.set i (.me n es))))
  | _ => .stuck
/-- self.f += e -/
def mSelfAdd (i n j : Nat) (m : Rho → R D) : Rho → R Out := fun ρ => match ρ[i]? with
  | some (.me c ds) => R.grd (c = n ∧ noMe (ρ.set i .no) = true ∧ ds.length < 900) (lift ρ (getD ds j) fun d => lift ρ (m ρ) fun y => match d, y with
    | .int a, .int b => lift ρ (putA ds j (.int (a + b))) fun es => .ok (.next (ρ.set i (.me n es)))
    | _, _ => .stuck)
  | _ => .stuck
theorem cs_self (i n j : Nat) {x : Str} {p p' : Pos} (hc : ClsY X.kx n) (he : PE X e (yE X.kx B m)) (hf : (clsTab n).2[j]? = some f := by rfl) (hN : X.N[i]? = some x := by rfl) (hv : Vis X.env.scope x := by first | exact Or.inl rfl | exact Or.inr (Or.inl rfl) | exact Or.inr (Or.inr rfl)) (hd : (x == ("__debug__" : Str)) = false := by decide)
    (hcd : (x == ("__classdict__" : Str)) = false := by decide) (hs : swapsWith e (some (.Attribute (.Name x p) f p')) pos.line X.env = pure false := by rfl) : PS X (.Assign [.Attribute (.Name x p) f p'] e pos) (yS X.kx B (mSelf i n j m)) :=
  ps_imp (ps_fld (pe_var hN hv hd hcd) he hs) fun N σ H ⟨F, ρ, ok, q⟩ => sE ok q fun d F1 H1 y e1 ry q1 => by
    have k := ok.step e1
    obtain ⟨⟨C, hC, cl, na⟩, nd⟩ := hc
    split at q1
    · rename_i c ds e0
      obtain ⟨⟨rfl, nm, hl⟩, q1⟩ := R.all_grd.mp q1
      obtain ⟨a, C', dx, fs, ea, ow, hC', h1, ek, rl⟩ := k.sl i _ e0
      rw [hC] at hC'
      cases hC'
      cases ep : putA ds j d with
      | ok es =>
        rw [ep] at q1
        obtain ⟨p1, p2, p3⟩ := putA_ok nd hf ek rl ry ep
        have lf : fs.length = ds.length := by have := RpL.length rl; rw [List.length_map] at this; exact this
        refine ⟨.ref a, ea, a, C, dx, fs, rfl, h1, cl, na f (List.mem_of_getElem? hf), by omega, q1 F1 _ σ (Same.refl F1) ?_⟩
        exact k.mutMe e0 ea hC h1 p1 p2 fun l c' es' ne el => (noMe_at (j := l) (c := c') (es := es') nm (by rw [List.getElem?_set_ne (Ne.symm ne)]; exact el)).elim
      | exn x => unfold putA at ep; split at ep <;> first | cases ep | (split at ep <;> cases ep)
      | stuck => rw [ep] at q1; exact q1.elim
      | draw b r => unfold putA at ep; split at ep <;> first | cases ep | (split at ep <;> cases ep)
    · exact q1.elim
theorem cs_selfAdd (i n j : Nat) {x : Str} {p p' : Pos} (hc : ClsY X.kx n) (he : PE X e (yE X.kx B m)) (hf : (clsTab n).2[j]? = some f := by rfl) (hN : X.N[i]? = some x := by rfl) (hv : Vis X.env.scope x := by first | exact Or.inl rfl | exact Or.inr (Or.inl rfl) | exact Or.inr (Or.inr rfl)) (hd : (x == ("__debug__" : Str)) = false := by decide)
    (hcd : (x == ("__classdict__" : Str)) = false := by decide) : PS X (.AugAssign (.Attribute (.Name x p) f p') .Add e pos) (yS X.kx B (mSelfAdd i n j m)) :=
  ps_imp (ps_fldaug (pe_var hN hv hd hcd) he in_add) fun N σ H ⟨F, ρ, ok, q⟩ => by
    obtain ⟨⟨C, hC, cl, na⟩, nd⟩ := hc
    unfold mSelfAdd at q
    split at q
    · rename_i c ds e0
      obtain ⟨⟨rfl, nm, hl⟩, q⟩ := R.all_grd.mp q
      obtain ⟨a, C', dx, fs, ea, ow, hC', h1, ek, rl⟩ := ok.sl i _ e0
      rw [hC] at hC'
      cases hC'
      unfold getD at q
      split at q
      · rename_i d ed
        obtain ⟨w, ew, rw'⟩ := fld_at nd hf ek rl ed
        refine ⟨.ref a, ea, a, C, dx, fs, w, rfl, h1, cl, na f (List.mem_of_getElem? hf), ew, ?_⟩
        refine sE ok q fun y F1 H1 u e1 ry q1 => ?_
        have k := ok.step e1
        split at q1
        · rename_i za zb
          unfold Rp at rw'
          unfold RpX Rp at ry
          subst rw' ry
          obtain ⟨a', C', dx', fs', ea', ow', hC', h1', ek', rl'⟩ := k.sl i _ e0
          rw [hC] at hC'
          cases hC'
          rw [ea] at ea'
          cases ea'
          refine ⟨za, zb, rfl, rfl, ?_⟩
          cases ep : putA ds j (.int (za + zb)) with
          | ok es =>
            rw [ep] at q1
            obtain ⟨p1, p2, p3⟩ := putA_ok nd hf ek' rl' (Rp.int (za + zb)) ep
            have lf : fs'.length = ds.length := by have := RpL.length rl'; rw [List.length_map] at this; exact this
            refine ⟨dx', fs', h1', by omega, q1 F1 _ σ (Same.refl F1) ?_⟩
            exact k.mutMe e0 ea hC h1' p1 p2 fun l c' es' ne el => (noMe_at (j := l) (c := c') (es := es') nm (by rw [List.getElem?_set_ne (Ne.symm ne)]; exact el)).elim
          | exn x => unfold putA at ep; split at ep <;> first | cases ep | (split at ep <;> cases ep)
          | stuck => rw [ep] at q1; exact q1.elim
          | draw b r => unfold putA at ep; split at ep <;> first | cases ep | (split at ep <;> cases ep)
        · exact q1.elim
      · exact q.elim
    · exact q.elim
end
end Y
/-! # Y21 -/
set_option Elab.async false
set_option linter.all false
set_option maxRecDepth 100000
set_option maxHeartbeats 4000000
namespace Y
open PySem PySem.Spec L2
open PyProof.Rows hiding St

/-! ### methods -/
/-- a method of class n, by data -/
def CalM (P : Program) (w : World) (K : PySem.W.Frag) (mg : Str → Option Value) (base : Heap) (k n : Nat) (x : Str) (a : Nat) (m : List D → R D) : Prop :=
  ∃ C g fd ps, mg (clsTab n).1 = some (.ref C) ∧ Cls K C ∧ Meth K C x g ∧ x ∉ (clsTab n).2 ∧ FnG P w K mg base k g fd ps (spD ⟨K, mg⟩ a m) ∧ Binds K fd ps []
def CalMK (P : Program) (w : World) (K : PySem.W.Frag) (mg : Str → Option Value) (base : Heap) (k n : Nat) (x : Str) (ks : List Str) (np : Nat) (π : List Nat) (a : Nat) (m : List D → R D) : Prop :=
  ∃ C g fd ps, ps.length = a ∧ mg (clsTab n).1 = some (.ref C) ∧ Cls K C ∧ Meth K C x g ∧ x ∉ (clsTab n).2 ∧ FnG P w K mg base k g fd ps (spD ⟨K, mg⟩ a m) ∧ KwTo fd ps ks np π
def isObj (n : Nat) : D → Bool
  | .obj c _ => c == n
  | _ => false
def mMeth (n a : Nat) (m : List D → R D) (mo : Rho → R D) (ma : Rho → R (List D)) : Rho → R D := fun ρ => (mo ρ).bind fun o => R.grd (isObj n o = true) ((ma ρ).bind fun ds => R.grd (ds.length + 1 = a) (m (o :: ds)))
def mMethK (n : Nat) (π : List Nat) (a np nk : Nat) (m : List D → R D) (mo : Rho → R D) (ma mk : Rho → R (List D)) : Rho → R D := fun ρ => (mo ρ).bind fun o => R.grd (isObj n o = true) ((ma ρ).bind fun ds => (mk ρ).bind fun es =>
  R.grd (ds.length + 1 = np ∧ es.length = nk ∧ (pick π ((o :: ds) ++ es)).length = a) (m (pick π ((o :: ds) ++ es))))
theorem no_attr {n : Nat} {x : Str} {l : Nat} {fs : List (Str × V)} (h : x ∉ (clsTab n).2) (ek : fs.map (·.1) = (clsTab n).2.take l) : fs.lookup x = none := look_no fun z => h (List.mem_of_mem_take (by rw [← ek]; exact z))
theorem isObj_of {n : Nat} {d : D} (h : isObj n d = true) : ∃ ds, d = .obj n ds := by
  cases d with
  | obj c ds =>
    have : c = n := by simpa [isObj] using h
    subst this
    exact ⟨ds, rfl⟩
  | _ => cases h
theorem rp_obj_mono {Z : Kx} {B : Bx} {F F' : Hp} {n : Nat} {ds : List D} {p : Addr} (s : Same F F') (r : RpX Z B F (.obj n ds) (.ref p)) : RpX Z B F' (.obj n ds) (.ref p) := Rp.mono s _ _ r
section
variable {X : Cx} {B : Bx} {k j n a : Nat} {x : Str} {pos apos : Pos} {e o : Expr} {es : List Expr} {kws : List Keyword} {m : List D → R D} {mo : Rho → R D} {ma mk : Rho → R (List D)} {ks : List Str} {np : Nat} {π : List Nat}
theorem ce_meth {pl : Sem Bool} (G : CalM X.prog X.w X.K X.mg X.base j n x a m) (hr : RG k X.A) (hj : j ≤ k) (tk : Takes X B.W) (ho : PE X o (yE X.kx B mo)) (ha : PA X (e :: es) (yA X.kx B ma))
    (hst : starEach (e :: es) X.env = (false, eval e X.env) :: starEach es X.env := by rfl) (hpl : (backTo pos (starEach es X.env)).any (·.1) = false := by rfl)
    (ht : eval (.Call (.Attribute o x apos) (e :: es) [] pos) X.env = (do
      let ov ← eval o X.env
      standAt apos.atName
      let (f, first) ← holding [ov] (getMethod ov x pl)
      callWith pos f first (backTo pos (starEach (e :: es) X.env)) (backToKw pos (keywordEach [] X.env))) := by rfl) :
    PE X (.Call (.Attribute o x apos) (e :: es) [] pos) (yE X.kx B (mMeth n a m mo ma)) := ⟨fun pins s σ H Q I ⟨F, ρ, ok, q⟩ => by
  obtain ⟨C, g, fd, ps, hC, cl, hm, nx, Ff, hb⟩ := G
  have h1 : yE X.kx B mo σ H fun v H1 => ∃ p dx fs, v = .ref p ∧ H1 p = some (.ins C dx fs) ∧ fs.lookup x = none ∧ yA X.kx B ma σ H1 fun vs H2 => spD ⟨X.K, X.mg⟩ a m (.ref p :: vs) H2 Q (WE B.W σ) := by
    refine seqE ok q fun d F1 H1 v e1 r1 q1 => ?_
    have k1 := ok.step e1
    obtain ⟨ho', q1⟩ := R.all_grd.mp q1
    obtain ⟨ds, rfl⟩ := isObj_of ho'
    have r0 := r1
    unfold RpX Rp at r1
    obtain ⟨p, C', dx, fs, rfl, hC', h2, ek, rl⟩ := r1
    have eC := hC.symm.trans hC'
    cases eC
    refine ⟨p, dx, fs, rfl, k1.fh _ _ h2, no_attr nx ek, ?_⟩
    refine seqA k1 q1 fun ds' F2 H2 vs e2 r2 q2 => ?_
    obtain ⟨hl, q2⟩ := R.all_grd.mp q2
    have k2 := k1.step e2
    exact ⟨B.dl, F2, .obj n ds :: ds', hl, k2.fh, k2.dk, k2.df, RpL.cons (rp_obj_mono (B := B) e2.ff r0) r2, R.all_imp (fun d z F3 H3 v e3 r3 => z F3 H3 v ((e1.trans e2).trans e3) r3) (fun x z F3 H3 c o e3 w => z F3 H3 c o e3 w) q2⟩
  refine PySem.W.methodCall_KW (pl := pl) (thn (ho.run pins s σ H _ I h1) fun u s1 ⟨v, H1, I1, rx, p, dx, fs, ex, ea, l, q1⟩ => ?_) ht
  subst ex
  obtain rfl : u = Value.ref p := rx
  refine getmeth_ok I1 ea cl hm l ?_
  refine PySem.W.callWith_K (first := [.ref p]) (h₀ := X.base) I.ok.mod.kin hm.kp (thn (ha.run pos pins s1 σ H1 _ I1 q1) fun us s2 ⟨vs, H2, I2, r, q2⟩ => ⟨I2.kIn, ?_⟩) hst hpl
  exact runG (us := .ref p :: us) (vs := .ref p :: vs) (E := WE B.W) Ff (hr.mono hj) hb (passAt tk σ) I2 (.cons rfl r) q2⟩
/-- o.m(k = v, ..): keywords alone -/
theorem ce_methK0 {pl : Sem Bool} (G : CalMK X.prog X.w X.K X.mg X.base j n x ks 1 π a m) (hr : RG k X.A) (hj : j ≤ k) (tk : Takes X B.W) (ho : PE X o (yE X.kx B mo)) (hkw : PK X kws (yA X.kx B mk))
    (hall : (backToKw pos (keywordEach kws X.env)).all (·.1.isSome) = true := by rfl) (hks : (backToKw pos (keywordEach kws X.env)).filterMap (·.1) = ks := by rfl) (hpl : ((backTo pos (starEach [] X.env)).any (·.1) || (backToKw pos (keywordEach kws X.env)).any (·.1.isNone)) = false := by rfl)
    (ht : eval (.Call (.Attribute o x apos) [] kws pos) X.env = (do
      let ov ← eval o X.env
      standAt apos.atName
      let (f, first) ← holding [ov] (getMethod ov x pl)
      callWith pos f first (backTo pos (starEach [] X.env)) (backToKw pos (keywordEach kws X.env))) := by rfl) :
    PE X (.Call (.Attribute o x apos) [] kws pos) (yE X.kx B (mMethK n π a 1 ks.length m mo mNil mk)) := ⟨fun pins s σ H Q I ⟨F, ρ, ok, q⟩ => by
  obtain ⟨C, g, fd, ps, ea, hC, cl, hm, nx, Ff, hb⟩ := G
  have h1 : yE X.kx B mo σ H fun v H1 => ∃ p dx fs, v = .ref p ∧ H1 p = some (.ins C dx fs) ∧ fs.lookup x = none ∧ yA X.kx B mk σ H1 fun zs H2 => zs.length = ks.length ∧ spD ⟨X.K, X.mg⟩ a m (pick π ([V.ref p] ++ zs)) H2 Q (WE B.W σ) := by
    refine seqE ok q fun d F1 H1 v e1 r1 q1 => ?_
    have k1 := ok.step e1
    obtain ⟨ho', q1⟩ := R.all_grd.mp q1
    obtain ⟨ds, rfl⟩ := isObj_of ho'
    have r0 := r1
    unfold RpX Rp at r1
    obtain ⟨p, C', dx, fs, rfl, hC', h2, ek, rl⟩ := r1
    have eC := hC.symm.trans hC'
    cases eC
    refine ⟨p, dx, fs, rfl, k1.fh _ _ h2, no_attr nx ek, ?_⟩
    refine seqA k1 q1 fun ds' F2 H2 zs e2 r2 q2 => ?_
    obtain ⟨⟨hl1, hl2, hl3⟩, q2⟩ := R.all_grd.mp q2
    have k2 := k1.step e2
    have rr := pick_rp π (RpL.append (RpL.cons (rp_obj_mono (B := B) e2.ff r0) RpL.nil) r2)
    exact ⟨by rw [RpL.length r2]; exact hl2, B.dl, F2, _, hl3, k2.fh, k2.dk, k2.df, rr, R.all_imp (fun d z F3 H3 v e3 r3 => z F3 H3 v ((e1.trans e2).trans e3) r3) (fun x z F3 H3 c o e3 w => z F3 H3 c o e3 w) q2⟩
  refine PySem.W.methodCall_KW (pl := pl) (thn (ho.run pins s σ H _ I h1) fun u s1 ⟨v, H1, I1, rx, p, dx, fs, ex, ea', l, q1⟩ => ?_) ht
  subst ex
  obtain rfl : u = Value.ref p := rx
  refine getmeth_ok I1 ea' cl hm l ?_
  refine PySem.W.callWith_KW0 (first := [.ref p]) (h₀ := X.base) I.ok.mod.kin hm.kp hall ?_ hpl
  refine thn (hkw.run pos pins s1 σ H1 _ I1 q1) fun ws s2 ⟨zs, H2, I2, rz, l2, q2⟩ => ⟨I2.kIn, ?_⟩
  rw [hks]
  exact runGK (us := [.ref p]) (vs := [.ref p]) (E := WE B.W) Ff (hr.mono hj) hb (passAt tk σ) I2 (.cons rfl .nil) rz rfl l2 q2⟩

/-! ### a method of the object that is being made -/
mutual
def D.bare : D → Bool
  | .obj _ _ => false
  | .deal => false
  | .tup ds => D.bareL ds
  | .lst ds => D.bareL ds
  | _ => true
def D.bareL : List D → Bool
  | [] => true
  | d :: ds => D.bare d && D.bareL ds
end
mutual
theorem bare_rp {mg : Str → Option Value} {dl : DL} {F : Hp} {a C dx : Addr} {fs : List (Str × V)} (h : F a = some (.ins C dx fs)) : ∀ (d : D) (v : V), d.bare = true → Rp mg dl F d v → Rp mg dl (fun b => if b = a then none else F b) d v
  | .non, v, _, r => by unfold Rp at r ⊢; exact r
  | .bl b, v, _, r => by unfold Rp at r ⊢; exact r
  | .int i, v, _, r => by unfold Rp at r ⊢; exact r
  | .str x, v, _, r => by unfold Rp at r ⊢; exact r
  | .tup ds, v, b, r => by
    unfold Rp at r ⊢
    obtain ⟨p, vs, e, q, rl⟩ := r
    unfold D.bare at b
    refine ⟨p, vs, e, ?_, bare_rpL h ds vs b rl⟩
    rw [if_neg (fun z => by subst z; rw [h] at q; cases q)]
    exact q
  | .lst ds, v, b, r => by
    unfold Rp at r ⊢
    obtain ⟨p, vs, e, q, rl⟩ := r
    unfold D.bare at b
    refine ⟨p, vs, e, ?_, bare_rpL h ds vs b rl⟩
    rw [if_neg (fun z => by subst z; rw [h] at q; cases q)]
    exact q
  | .obj c ds, v, b, r => by unfold D.bare at b; cases b
  | .deal, v, b, r => by unfold D.bare at b; cases b
theorem bare_rpL {mg : Str → Option Value} {dl : DL} {F : Hp} {a C dx : Addr} {fs : List (Str × V)} (h : F a = some (.ins C dx fs)) : ∀ (ds : List D) (vs : List V), D.bareL ds = true → RpL mg dl F ds vs → RpL mg dl (fun b => if b = a then none else F b) ds vs
  | [], vs, _, r => by unfold RpL at r ⊢; exact r
  | d :: ds, vs, b, r => by
    unfold RpL at r ⊢
    obtain ⟨v, r', e, q, t⟩ := r
    unfold D.bareL at b
    rw [Bool.and_eq_true] at b
    exact ⟨v, r', e, bare_rp h d v b.1 q, bare_rpL h ds r' b.2 t⟩
end
def mMethS (i n a : Nat) (m : List D → R D) (ma : Rho → R (List D)) : Rho → R D := fun ρ => match ρ[i]? with
  | some (.me c ds) => R.grd (c = n) ((ma ρ).bind fun es => R.grd (es.length + 1 = a) ((m (.obj n ds :: es)).nb fun d => R.grd (d.bare = true) (.ok d)))
  | _ => .stuck
theorem ce_methS {pl : Sem Bool} (i : Nat) {y : Str} {p : Pos} (G : CalM X.prog X.w X.K X.mg X.base j n x a m) (hr : RG k X.A) (hj : j ≤ k) (tk : Takes X B.W) (ha : PA X (e :: es) (yA X.kx B ma))
    (hN : X.N[i]? = some y := by rfl) (hv : Vis X.env.scope y := by first | exact Or.inl rfl | exact Or.inr (Or.inl rfl) | exact Or.inr (Or.inr rfl)) (hd : (y == ("__debug__" : Str)) = false := by decide) (hcd : (y == ("__classdict__" : Str)) = false := by decide)
    (hst : starEach (e :: es) X.env = (false, eval e X.env) :: starEach es X.env := by rfl) (hpl : (backTo pos (starEach es X.env)).any (·.1) = false := by rfl)
    (ht : eval (.Call (.Attribute (.Name y p) x apos) (e :: es) [] pos) X.env = (do
      let ov ← eval (.Name y p) X.env
      standAt apos.atName
      let (f, first) ← holding [ov] (getMethod ov x pl)
      callWith pos f first (backTo pos (starEach (e :: es) X.env)) (backToKw pos (keywordEach [] X.env))) := by rfl) :
    PE X (.Call (.Attribute (.Name y p) x apos) (e :: es) [] pos) (yE X.kx B (mMethS i n a m ma)) := ⟨fun pins s σ H Q I ⟨F, ρ, ok, q⟩ => by
  obtain ⟨C, g, fd, ps, hC, cl, hm, nx, Ff, hb⟩ := G
  have h1 : tVar i σ H fun v H1 => ∃ p dx fs, v = .ref p ∧ H1 p = some (.ins C dx fs) ∧ fs.lookup x = none ∧ yA X.kx B ma σ H1 fun vs H2 => spD ⟨X.K, X.mg⟩ a m (.ref p :: vs) H2 Q (WE B.W σ) := by
    unfold mMethS at q
    split at q
    · rename_i c ds e0
      obtain ⟨rfl, q⟩ := R.all_grd.mp q
      obtain ⟨p, C', dx, fs, ea, ow, hC', h2, ek, rl⟩ := ok.sl i _ e0
      have eC := hC.symm.trans hC'
      cases eC
      refine ⟨.ref p, ea, p, dx, fs, rfl, h2, no_attr nx ek, ?_⟩
      refine seqA ok q fun ds' F2 H2 vs e2 r2 q2 => ?_
      obtain ⟨hl, q2⟩ := R.all_grd.mp q2
      have k2 := ok.step e2
      obtain ⟨p', C', dx', fs', ea', ⟨⟨o1, o2, o3⟩, ox⟩, hC', h3, ek', rl'⟩ := k2.sl i _ e0
      rw [ea] at ea'
      cases ea'
      have eC := hC.symm.trans hC'
      cases eC
      have ss : Same F2 (upd F2 p (.ins C dx' fs')) := same_upd o1
      have sh : Same (upd F2 p (.ins C dx' fs')) H2 := fun b o w => by
        by_cases hb' : b = p
        · subst hb'; rw [upd_same] at w; rw [← w]; exact h3
        · rw [upd_ne hb'] at w; exact k2.fh b o w
      have ro : Rp X.mg B.dl (upd F2 p (.ins C dx' fs')) (.obj c ds) (.ref p) := by
        unfold Rp
        exact ⟨p, C, dx', fs', rfl, hC, upd_same, ek', RpL.mono ss _ _ rl'⟩
      refine ⟨B.dl, upd F2 p (.ins C dx' fs'), .obj c ds :: ds', hl, sh, k2.dk, fun b hb' => ?_, RpL.cons ro (RpL.mono ss _ _ r2), ?_⟩
      · rw [upd_ne (fun z => o3 (by rw [← z]; exact hb'))]
        exact k2.df b hb'
      · refine R.all_imp (fun d z => ?_) (fun _ z => z.elim) (R.all_nb.mp q2)
        obtain ⟨hbare, z⟩ := R.all_grd.mp z
        intro F3 H3 v e3 r3
        have h4 : F3 p = some (.ins C dx' fs') := e3.ff _ _ upd_same
        have x3 : Ext B.dl F2 H2 (fun b => if b = p then none else F3 b) H3 := by
          refine ⟨fun b o w => ?_, fun b o w => ?_, e3.hh, fun b o w => ?_, e3.dk⟩
          · have nb : b ≠ p := fun z => by subst z; rw [o1] at w; cases w
            show (if b = p then none else F3 b) = some o
            rw [if_neg nb]
            exact e3.ff b o (ss b o w)
          · have w' : (if b = p then none else F3 b) = some o := w
            split at w'
            · cases w'
            · exact e3.fh b o w'
          · have w' : (if b = p then none else F3 b) = some o := w
            split at w'
            · cases w'
            · rename_i nb
              rcases e3.fr b o w' with q | q
              · rw [upd_ne nb] at q; exact .inl q
              · exact .inr q
        exact z _ H3 v (e2.trans x3) (bare_rp h4 d v hbare r3)
    · exact q.elim
  refine PySem.W.methodCall_KW (pl := pl) (thn ((pe_var hN hv hd hcd).run pins s σ H _ I h1) fun u s1 ⟨v, H1, I1, rx, p, dx, fs, ex, ea, l, q1⟩ => ?_) ht
  subst ex
  obtain rfl : u = Value.ref p := rx
  refine getmeth_ok I1 ea cl hm l ?_
  refine PySem.W.callWith_K (first := [.ref p]) (h₀ := X.base) I.ok.mod.kin hm.kp (thn (ha.run pos pins s1 σ H1 _ I1 q1) fun us s2 ⟨vs, H2, I2, r, q2⟩ => ⟨I2.kIn, ?_⟩) hst hpl
  exact runG (us := .ref p :: us) (vs := .ref p :: vs) (E := WE B.W) Ff (hr.mono hj) hb (passAt tk σ) I2 (.cons rfl r) q2⟩
end
end Y
/-! # Y22 -/
set_option Elab.async false
set_option linter.all false
set_option maxRecDepth 100000
set_option maxHeartbeats 4000000
namespace Y
open PySem PySem.Spec L2
open PyProof.Rows hiding St

/-! ### objects made: C(..), its __init__ -/
def hid (H : Hp) (x : Addr) : Hp := fun b => if b = x then none else H b
theorem hid_ne {H : Hp} {x b : Addr} (h : b ≠ x) : hid H x b = H b := if_neg h
theorem hid_same {H : Hp} {x : Addr} : hid H x x = none := if_pos rfl
/-- an __init__'s promise: from any such arguments the object gets the attributes that m says -/
def spI (Z : Kx) (n a : Nat) (m : List D → R (List D)) : Sp := fun vs H Q E => ∃ dl F ds x C dx vs', vs = .ref x :: vs' ∧ ds.length + 1 = a ∧ Z.mg (clsTab n).1 = some (.ref C) ∧ Same F H ∧ F x = none ∧ H x = some (.ins C dx []) ∧ DealOk dl H ∧ ¬ Dl dl x ∧ (∀ b, Dl dl b → F b = none) ∧ RpL Z.mg dl F ds vs' ∧
  (m ds).all (fun es => ∀ F' H' dx' fs, Ext dl F (hid H x) F' H' → F' x = none → H' x = some (.ins C dx' fs) → fs.map (·.1) = (clsTab n).2.take es.length → RpL Z.mg dl F' es (fs.map (·.2)) → Q .non H')
    (fun e => ∀ F' H' c o, Ext dl F (hid H x) F' H' → Ex Z ⟨dl, F, hid H x, fun _ _ _ _ => False, x, none⟩ F' e c o → E c o H')
def endI (n : Nat) : Out → R (List D)
  | .next ρ => match ρ[0]? with
    | some (Sl.me c es) => if c = n then .ok es else .stuck
    | _ => .stuck
  | .exc x _ => .exn x
  | _ => .stuck
theorem endI_next {n : Nat} {ρ : Rho} {P : List D → Prop} {E : D → Prop} (h : (endI n (.next ρ)).all P E) : ∃ es, ρ[0]? = some (.me n es) ∧ P es := by
  unfold endI at h
  simp only at h
  split at h
  · rename_i c es e0
    split at h
    · rename_i ec
      subst ec
      exact ⟨es, e0, h⟩
    · exact h.elim
  · exact h.elim
def mInit (n N a : Nat) (mb : Rho → R Out) : List D → R (List D) := fun ds => (mb (.me n [] :: (ds.map Sl.sh ++ List.replicate (N - a) Sl.no))).nb (endI n)
section
variable {P : Program} {w : World} {K : PySem.W.Frag} {mg : Str → Option Value} {base : Heap}
theorem init_ok {Z : Kx} {dl : DL} {F H : Hp} {W : WX} {ds : List D} {vs : List V} {N : List Str} {n a : Nat} {x C dx : Addr} (hl : ds.length + 1 = a) (hC : Z.mg (clsTab n).1 = some (.ref C)) (sf : Same F H) (fx : F x = none) (hx : H x = some (.ins C dx [])) (dk : DealOk dl H) (nx : ¬ Dl dl x) (df : ∀ b, Dl dl b → F b = none) (r : RpL Z.mg dl F ds vs) :
    Ok Z ⟨dl, F, hid H x, W, x, none⟩ F H (start N (.ref x :: vs)) (.me n [] :: (ds.map Sl.sh ++ List.replicate (N.length - a) Sl.no)) := by
  have hv : vs.length = ds.length := RpL.length r
  have dk0 : DealOk dl (hid H x) := fun p c e => by
    obtain ⟨ne, cs, m, h1, h2, rest⟩ := dk p c e
    exact ⟨ne, cs, m, by rw [hid_ne (fun z => nx ⟨p, c, e, .inl z.symm⟩)]; exact h1, by rw [hid_ne (fun z => nx ⟨p, c, e, .inr z.symm⟩)]; exact h2, rest⟩
  refine ⟨⟨Same.refl F, sf, fun b o h _ => ?_, fun b o h => .inl h, dk⟩, df, dk0, ?_, fun i s e => ?_, fun i j ds' es b ne e1 e2 e3 e4 => ?_⟩
  · have h' : (if b = x then none else H b) = some o := h
    split at h'
    · cases h'
    · exact h'
  · unfold L2.start
    simp only [List.length_append, List.length_cons, List.length_map, List.length_replicate]
    omega
  · cases i with
    | zero =>
      simp at e
      subst e
      exact ⟨x, C, dx, [], by unfold L2.start; rfl, ⟨⟨fx, hid_same, nx⟩, rfl⟩, hC, hx, by simp, RpL.nil⟩
    | succ i =>
      rw [List.getElem?_cons_succ] at e
      have es : (start N (.ref x :: vs))[i + 1]? = (vs.map some ++ List.replicate (N.length - (vs.length + 1)) none)[i]? := by unfold L2.start; rfl
      rw [es]
      by_cases hi : i < ds.length
      · rw [List.getElem?_append_left (by rw [List.length_map]; exact hi), List.getElem?_map] at e
        rw [List.getElem?_append_left (by rw [List.length_map, hv]; exact hi), List.getElem?_map]
        rw [List.getElem?_eq_getElem hi] at e
        cases e
        obtain ⟨v, ev, rv⟩ := RpL.get r (List.getElem?_eq_getElem hi)
        rw [ev]
        exact ⟨v, rfl, rv⟩
      · rw [List.getElem?_append_right (by rw [List.length_map]; omega), List.getElem?_replicate] at e
        split at e
        · cases e; trivial
        · cases e
  · exfalso
    cases i with
    | zero => simp at e1
    | succ i =>
      rw [List.getElem?_cons_succ] at e1
      by_cases hi : i < ds.length
      · rw [List.getElem?_append_left (by rw [List.length_map]; exact hi), List.getElem?_map, List.getElem?_eq_getElem hi] at e1
        cases e1
      · rw [List.getElem?_append_right (by rw [List.length_map]; omega), List.getElem?_replicate] at e1
        split at e1 <;> cases e1
/-- no assignment to self: slot 0 stays what it is -/
theorem fn_init {x qual : Str} {st : Stmt} {f : Addr} {fd : FuncData} {N ps : List Str} {k n : Nat} {mb : Rho → R Out} (F : Fun K x qual st f fd) (S : FnScope N ps (defScope st)) (hb : BodyOk P w K mg base N qual st k mb) : FnG P w K mg base (k + 1) f fd ps (fun vs H Q E => spI ⟨K, mg⟩ n ps.length (mInit n N.length ps.length mb) vs H Q E) := by
  refine fnG_of F S (fun vs H Q E h => ?_) (fun cdv A outer s H vs Q E hr h => ?_)
  · obtain ⟨dl, F, ds, x, C, dx, vs', rfl, hl, _, _, _, _, _, _, _, r, _⟩ := h
    rw [List.length_cons, RpL.length r, hl]
  · obtain ⟨dl, F, ds, x, C, dx, vs', rfl, hl, hC, sf, fx, hx, dk, nx, df, r, q⟩ := h
    refine ⟨yS ⟨K, mg⟩ ⟨dl, F, hid H x, fun c o _ H => E c o H, x, none⟩ (fun ρ => mb ρ), hb f cdv A outer s H E ⟨dl, F, hid H x, fun c o _ H => E c o H, x, none⟩ hr (takes_of rfl rfl rfl rfl) (passes_of rfl), ?_⟩
    refine ⟨F, _, init_ok hl hC sf fx hx dk nx df r, R.all_imp (fun o z => ?_) (fun _ z => z.elim) (R.all_nb.mp q)⟩
    cases o with
    | next ρ =>
      intro F' H' σ' _ k
      obtain ⟨es, e0, z⟩ := endI_next z
      obtain ⟨a, C', dx', fs, ea, ⟨⟨o1, o2, o3⟩, ox⟩, hC', h1, ek, rl⟩ := k.sl 0 _ e0
      have eC := hC.symm.trans hC'
      cases eC
      subst ox
      exact z F' H' dx' fs k.ext o1 h1 ek rl
    | ret d => exact z.elim
    | brk ρ => exact z.elim
    | cont ρ => exact z.elim
    | exc y ρ => exact fun F' H' σ' c o _ k q => z F' H' c o k.ext q
end
end Y
/-! # Y23 -/
set_option Elab.async false
set_option linter.all false
set_option maxRecDepth 100000
set_option maxHeartbeats 4000000
namespace Y
open PySem PySem.Spec L2
open PyProof.Rows hiding St

/-! ### C(..) -/
theorem RG.make {k : Nat} {A : Around} (r : RG (k + 1) A) (C : Addr) (us : List Value) (ks : List (Str × Value)) : RG k (A.under (.builtin "type.__call__" ⟨.ref C :: us, ks⟩)) := ⟨r.room.make C us ks, r.grd⟩
/-- class n, made by its name -/
def CalI (P : Program) (w : World) (K : PySem.W.Frag) (mg : Str → Option Value) (base : Heap) (k n : Nat) (a : Nat) (m : List D → R (List D)) : Prop :=
  ∃ C g fd ps, mg (clsTab n).1 = some (.ref C) ∧ Mk K C g ∧ FnG P w K mg base k g fd ps (spI ⟨K, mg⟩ n a m) ∧ Binds K fd ps []
def mMake (n a : Nat) (m : List D → R (List D)) (ma : Rho → R (List D)) : Rho → R D := fun ρ => (ma ρ).bind fun ds => R.grd (ds.length + 1 = a) ((m ds).bind fun es => .ok (.obj n es))
section
variable {X : Cx} {B : Bx} {k j n a : Nat} {x : Str} {pos p : Pos} {e : Expr} {es : List Expr} {m : List D → R (List D)} {ma : Rho → R (List D)}
theorem run_makeG {C f : Addr} {fd : FuncData} {ps : List Str} {sp : Sp} {E : L2.St → XK} {pins : List (Addr × Obj)} {σ : L2.St} {H : Hp} {s : Shared} {Q : VK} {us : List Value} {vs : List V} (M : Mk X.K C f) (F : FnG X.prog X.w X.K X.mg X.base k f fd ps sp) (hr : RG (k + 1) X.A) (hb : Binds X.K fd ps []) (hx : PassesAt (L2.CX X.prog X.w) X σ (E σ))
    (I : L2.Inv X pins σ H s) (r : Vals vs us)
    (h : ∀ x dx, H x = none → H dx = none → dx ≠ x → sp (.ref x :: vs) (upd (upd H dx (.own x)) x (.ins C dx [])) (fun v H2 => v = .non ∧ Q (.ref x) H2) (E σ)) :
    wpAny (model X.prog X.w) X.A (call (.ref C) us) (EP X pins σ Q) X.xe s := by
  have hq := h (s.heap.objs.size + 1) s.heap.objs.size (I.hok.fresh (Nat.le_succ _)) (I.hok.fresh (Nat.le_refl _)) (Nat.ne_of_lt (Nat.lt_succ_self _))
  have I2 := Inv.made (C := C) I
  have r2 : Vals (V.ref (s.heap.objs.size + 1) :: vs) (Value.ref (s.heap.objs.size + 1) :: us) := .cons rfl r
  have hl : (Value.ref (s.heap.objs.size + 1) :: us ++ []).length = ps.length := by
    rw [List.append_nil]
    have e := r2.length
    rw [F.len _ _ _ _ hq] at e
    exact e.symm
  have bb := hb _ (Value.ref (s.heap.objs.size + 1) :: us) I2.kIn hl
  rw [List.append_nil] at bb
  refine wpAny_call (make_map (f := f) I.kIn M.makes M.init (beq_iff_eq.mp M.fn) (codeAny_mono (F.run _ X.stack _ _ ⟨Value.ref (s.heap.objs.size + 1) :: us, []⟩ (Value.ref (s.heap.objs.size + 1) :: us) _ _ (E σ) (hr.make C us [])
    (I2.env0.make C us []) bb r2 hq) fun r s' hq' => ?_))
  cases r with
  | error e => exact hx pins _ _ e s' I2 hq'
  | ok fl =>
    cases fl with
    | ret u =>
      obtain ⟨v, H', I3, rv, ev, q3⟩ := I2.after hq'
      subst ev
      exact ⟨rv, ⟨V.ref (s.heap.objs.size + 1), H', I3, rfl, q3⟩⟩
    | next => exact False.elim hq'
    | brk => exact False.elim hq'
    | cont => exact False.elim hq'
theorem make_read {dl : DL} {F H : Hp} {C : Addr} {ds : List D} {vs : List V} {Q : VK} {E : XK} {P0 : D → Prop} (hC : X.mg (clsTab n).1 = some (.ref C)) (sf : Same F H) (dk : DealOk dl H) (df : ∀ b, Dl dl b → F b = none) (r : RpL X.mg dl F ds vs) (hl : ds.length + 1 = a)
    (q : (m ds).all (fun es => ∀ F' H' v, Ext dl F H F' H' → Rp X.mg dl F' (.obj n es) v → Q v H') P0) (hE : ∀ e, P0 e → ∀ F' H' c o, Ext dl F H F' H' → Ex ⟨X.K, X.mg⟩ ⟨dl, F, H, fun _ _ _ _ => False, 0, none⟩ F' e c o → E c o H') :
    ∀ x dx, H x = none → H dx = none → dx ≠ x → spI ⟨X.K, X.mg⟩ n a m (.ref x :: vs) (upd (upd H dx (.own x)) x (.ins C dx [])) (fun v H2 => v = .non ∧ Q (.ref x) H2) E := by
  intro x dx hx hdx ne
  have nx : ¬ Dl dl x := dk.nof hx
  have ndx : ¬ Dl dl dx := dk.nof hdx
  have ss : Same H (upd (upd H dx (.own x)) x (.ins C dx [])) := (same_upd hdx).trans (same_upd (by rw [upd_ne (Ne.symm ne)]; exact hx))
  have up : ∀ {F' H' : Hp}, Ext dl F (hid (upd (upd H dx (.own x)) x (.ins C dx [])) x) F' H' → ∀ b o, H b = some o → ¬ Dl dl b → H' b = some o := fun {F' H'} e b o w n => by
    have nb : b ≠ x := fun z => by rw [z, hx] at w; cases w
    exact e.hh b o (by rw [hid_ne nb]; exact ss b o w) n
  have old : ∀ {F' H' : Hp}, Ext dl F (hid (upd (upd H dx (.own x)) x (.ins C dx [])) x) F' H' → ∀ b o, F' b = some o → F b = some o ∨ H b = none := fun {F' H'} e b o w => by
    rcases e.fr b o w with z | z
    · exact .inl z
    · by_cases hb : b = x
      · rw [hb]; exact .inr hx
      · rw [hid_ne hb, upd_ne hb] at z
        by_cases hb2 : b = dx
        · rw [hb2]; exact .inr hdx
        · rw [upd_ne hb2] at z; exact .inr z
  refine ⟨dl, F, ds, x, C, dx, vs, rfl, hl, hC, sf.trans ss, same_none sf hx, upd_same, (dk.upd ndx).upd nx, nx, df, r, R.all_imp (fun es z => ?_) (fun e z => ?_) q⟩
  · intro F' H' dx' fs e1 f1 h1 ek rl
    refine ⟨rfl, z (upd F' x (.ins C dx' fs)) H' (.ref x) ⟨fun b o w => ?_, fun b o w => ?_, up e1, fun b o w => ?_, e1.dk⟩ ?_⟩
    · have nb : b ≠ x := fun y => by rw [y] at w; rw [same_none sf hx] at w; cases w
      rw [upd_ne nb]
      exact e1.ff b o w
    · by_cases hb : b = x
      · subst hb; rw [upd_same] at w; rw [← w]; exact h1
      · rw [upd_ne hb] at w; exact e1.fh b o w
    · by_cases hb : b = x
      · rw [hb]; exact .inr hx
      · rw [upd_ne hb] at w; exact old e1 b o w
    · unfold Rp
      exact ⟨x, C, dx', fs, rfl, hC, upd_same, ek, RpL.mono (same_upd f1) _ _ rl⟩
  · intro F' H' c o e1 ex
    refine hE e z F' H' c o ⟨e1.ff, e1.fh, up e1, old e1, e1.dk⟩ ?_
    unfold Ex at ex ⊢
    exact ex
theorem ce_make (G : CalI X.prog X.w X.K X.mg X.base j n a m) (hr : RG k X.A) (hj : j + 1 ≤ k) (tk : Takes X B.W) (ha : PA X (e :: es) (yA X.kx B ma)) (hn : (clsTab n).1 = x := by rfl) (hg : Gl X x := by rfl) (hdb : (x == ("__debug__" : Str)) = false := by decide)
    (he : starEach (e :: es) X.env = (false, eval e X.env) :: starEach es X.env := by rfl) (hpl : (backTo pos (starEach es X.env)).any (·.1) = false := by rfl) : PE X (.Call (.Name x p) (e :: es) [] pos) (yE X.kx B (mMake n a m ma)) := ⟨fun pins s σ H Q I ⟨F, ρ, ok, q⟩ => by
  obtain ⟨C, f, fd, ps, hC, M, Ff, hb⟩ := G
  refine wpAny_Call_Name_kw (ld_glob I hg (by rw [← hn]; exact hC) ?_ hdb)
  have h1 : yA X.kx B ma σ H fun vs H1 => ∀ x dx, H1 x = none → H1 dx = none → dx ≠ x → spI ⟨X.K, X.mg⟩ n a m (.ref x :: vs) (upd (upd H1 dx (.own x)) x (.ins C dx [])) (fun v H2 => v = .non ∧ Q (.ref x) H2) (WE B.W σ) := by
    refine seqA ok q fun ds F1 H1 vs e1 r1 q1 => ?_
    obtain ⟨hl, q1⟩ := R.all_grd.mp q1
    have k1 := ok.step e1
    refine make_read hC k1.fh k1.dk k1.df r1 hl (R.all_imp (fun es z => ?_) (fun _ z => z) (R.all_bind.mp q1)) fun e z => ?_
    · intro F' H' v e2 r2
      exact z F' H' v (e1.trans e2) r2
    · intro F' H' c o e2 ex
      exact z F' H' c o e2 (by unfold Ex at ex ⊢; exact ex)
  exact PySem.W.callWith_K (h₀ := X.base) I.ok.mod.kin M.kp (thn (ha.run pos pins s σ H _ I h1) fun us s1 ⟨vs, H1, I1, r, q1⟩ => ⟨I1.kIn, run_makeG (E := WE B.W) M Ff (hr.mono hj) hb (passAt tk σ) I1 r q1⟩) he hpl⟩
end

/-! ### chains, a raise that is not reached, constants of the text, all, any, isinstance by several -/
def mChain (f g : D → D → R D) (a b c : Rho → R D) : Rho → R D := fun ρ => (a ρ).bind fun x => (b ρ).bind fun y => (f x y).bind fun z => (dBool z).bind fun k => if k = true then (c ρ).bind fun w => g y w else .ok (.bl false)
section
variable {X : Cx} {B : Bx} {a b c e : Expr} {pos : Pos} {ma mb mc m : Rho → R D} {op op' : CmpOp} {r r' : R2} {f g : D → D → R D}
theorem chain_read {σ : L2.St} {H : Hp} {Q : VK} (hf : OpD X.kx B r f) (hg : OpD X.kx B r' g) (q : yE X.kx B (mChain f g ma mb mc) σ H Q) : tChain r r' (yB X.kx B ma) (yB X.kx B mb) (yB X.kx B mc) σ H Q := by
  obtain ⟨F, ρ, ok, q⟩ := q
  refine seqB ok q fun x F1 H1 v1 e1 r1 q1 => ?_
  refine seqB (ok.step e1) q1 fun y F2 H2 v2 e2 r2 q2 => ?_
  have k := (ok.step e1).step e2
  refine hf x y v1 v2 F2 H2 _ _ k.fh k.dk (r1.step e2) r2 (R.all_imp (fun z hz => ?_) (fun _ z => z) (R.all_bind.mp q2))
  intro F3 H3 v e3 r3
  cases z with
  | bl kk =>
    unfold RpX Rp at r3
    refine ⟨kk, r3, ?_⟩
    have k3 := k.step e3
    cases kk with
    | true =>
      rw [if_pos rfl]
      have hz' : ((mc ρ).bind fun w => g y w).all (PE1 X.kx B F H Q) (XpE X.kx B F2 H2 σ) := hz
      refine seqB k3 (R.all_imp (fun _ z => z) (fun _ z => z.step e3) hz') fun w F4 H4 v4 e4 r4 q4 => ?_
      have k4 := k3.step e4
      exact hg y w v2 v4 F4 H4 Q _ k4.fh k4.dk ((r2.step e3).step e4) r4 (R.all_imp (fun _ z => (((z.step e1).step e2).step e3).step e4) (fun _ z => z) q4)
    | false =>
      rw [if_neg Bool.false_ne_true]
      exact hz F3 H3 _ ((e1.trans e2).trans e3) (Rp.bl false)
  | _ => exact hz.elim
theorem ce_chain (ho : OpR X (compareOp op) r) (ho' : OpR X (compareOp op') r') (hf : OpD X.kx B r f) (hg : OpD X.kx B r' g) (ha : PE X a (yB X.kx B ma)) (hb : PE X b (yB X.kx B mb)) (hc : PE X c (yB X.kx B mc)) (hm : lastMarks [op, op'] [b, c] = false := by with_unfolding_all rfl) :
    PE X (.Compare a [op, op'] [b, c] pos) (yE X.kx B (mChain f g ma mb mc)) := pe_imp (pe_chain ho ho' ha hb hc hm) fun _ _ _ q => chain_read hf hg q
theorem ct_chain (ho : OpR X (compareOp op) r) (ho' : OpR X (compareOp op') r') (hf : OpD X.kx B r f) (hg : OpD X.kx B r' g) (ha : PE X a (yB X.kx B ma)) (hb : PE X b (yB X.kx B mb)) (hc : PE X c (yB X.kx B mc)) (hm : lastMarks [op, op'] [b, c] = false := by with_unfolding_all rfl) :
    PT X (.Compare a [op, op'] [b, c] pos) (yT X.kx B (mTb (mChain f g ma mb mc))) := pt_imp (pt_chain ho ho' ha hb hc hm) (bool_read fun _ _ _ q => chain_read hf hg q)
def mStuck : Rho → R Out := fun _ => .stuck
theorem cs_stuck {st : Stmt} : PS X st (yS X.kx B mStuck) := ⟨fun pins s σ H D I ⟨F, ρ, ok, q⟩ => q.elim⟩
theorem ce_glob {x : Str} {u : Value} {d : D} (v : V) (hm : X.mg x = some u) (rel : RelV v u) (hd : ∀ F, RpX X.kx B F d v) (hg : Gl X x) (hdb : (x == ("__debug__" : Str)) = false) : PE X (.Name x pos) (yE X.kx B (mC d)) := ce_const v (pe_glob hg hm rel hdb) (fun _ _ _ q => q) hd
theorem ce_gint {x : Str} {i : Int} {u : Value} (hm : X.mg x = some u) (rel : RelV (.int i) u) (hg : Gl X x := by rfl) (hdb : (x == ("__debug__" : Str)) = false := by decide) : PE X (.Name x pos) (yE X.kx B (mC (.int i))) := ce_glob (.int i) hm rel (fun _ => Rp.int i) hg hdb
theorem ce_gstr {x : Str} {i : Str} {u : Value} (hm : X.mg x = some u) (rel : RelV (.str i) u) (hg : Gl X x := by rfl) (hdb : (x == ("__debug__" : Str)) = false := by decide) : PE X (.Name x pos) (yE X.kx B (mC (.str i))) := ce_glob (.str i) hm rel (fun _ => Rp.str i) hg hdb
def D.bl? : D → Option Bool
  | .bl i => some i
  | _ => none
def dAllB (f : List Bool → Bool) : List D → R D
  | [.lst ds] => match ds.mapM D.bl? with
    | some bs => .ok (.bl (f bs))
    | none => .stuck
  | _ => .stuck
theorem bls_of {mg : Str → Option Value} {dl : DL} {F : Hp} : ∀ {ds : List D} {ns : List Bool} {vs : List V}, ds.mapM D.bl? = some ns → RpL mg dl F ds vs → vs = ns.map V.bl
  | [], ns, vs, e, r => by
    simp at e
    subst e
    unfold RpL at r
    exact r
  | d :: ds, ns, vs, e, r => by
    unfold RpL at r
    obtain ⟨v, r', rfl, q, t⟩ := r
    rw [List.mapM_cons] at e
    cases d with
    | bl i =>
      cases em : ds.mapM D.bl? with
      | none => rw [em] at e; cases e
      | some ms =>
        rw [em] at e
        cases e
        unfold Rp at q
        subst q
        rw [List.map_cons, bls_of em t]
    | _ => cases e
theorem cd_allB {f : List Bool → Bool} : CallD X.kx B (fun vs H Q => ∃ (a : Addr) (bs : List Bool), vs = [V.ref a] ∧ SqL X.K H a (bs.map V.bl) ∧ Q (.bl (f bs)) H) (dAllB f) := fun ds vs F H Q E s k r q => by
  unfold dAllB at q
  split at q
  · split at q
    · rename_i ns en
      obtain ⟨v, rfl, r1⟩ := one_arg r
      obtain ⟨p, ws, rfl, h1, l1⟩ := r1.lst s
      have ew := bls_of en l1
      subst ew
      exact ⟨p, ns, rfl, .inl (.inl h1), fin_bl s k q⟩
    · exact q.elim
  · exact q.elim
variable {es : List Expr} {mr : Rho → R (List D)} {p : Pos}
theorem ce_all (ha : PA X (e :: es) (yAB X.kx B mr)) (hc : X.calm = true) (hm : X.mg "all" = none) (hg : Gl X "all" := by rfl) (he : starEach (e :: es) X.env = (false, eval e X.env) :: starEach es X.env := by rfl) (hpl : (backTo pos (starEach es X.env)).any (·.1) = false := by rfl) :
    PE X (.Call (.Name "all" p) (e :: es) [] pos) (yE X.kx B (mBi (dAllB fun bs => bs.all id) mr)) := ce_bi (cr_all hc) cd_allB hm (by decide +kernel) ha hg (by decide) (by decide) he hpl
theorem ce_any (ha : PA X (e :: es) (yAB X.kx B mr)) (hc : X.calm = true) (hm : X.mg "any" = none) (hg : Gl X "any" := by rfl) (he : starEach (e :: es) X.env = (false, eval e X.env) :: starEach es X.env := by rfl) (hpl : (backTo pos (starEach es X.env)).any (·.1) = false := by rfl) :
    PE X (.Call (.Name "any" p) (e :: es) [] pos) (yE X.kx B (mBi (dAllB fun bs => bs.any id) mr)) := ce_bi (cr_any hc) cd_allB hm (by decide +kernel) ha hg (by decide) (by decide) he hpl
/-- isinstance(x, (T1, T2)) -/
def dIsi2 (T1 T2 : String) (d : D) : R D := match d.tyName with
  | some a => match kitB a T1, kitB a T2 with
    | some b, some c => .ok (.bl (b || c))
    | _, _ => .stuck
  | none => .stuck
theorem ce_isi2 (T1 T2 : String) {x1 x2 : Str} {p1 p2 p3 : Pos} {kk : Nat} (he : PE X e (yB X.kx B m)) (hm : X.mg "isinstance" = none) (h1 : X.mg x1 = none) (h2 : X.mg x2 = none) (b1 : bootBuiltins x1 = some (.type T1) := by decide +kernel) (b2 : bootBuiltins x2 = some (.type T2) := by decide +kernel) (hg : Gl X "isinstance" := by rfl) (g1 : Gl X x1 := by rfl) (g2 : Gl X x2 := by rfl)
    (n1 : x1 ≠ "__name__" := by decide) (n2 : x2 ≠ "__name__" := by decide) (d1 : (x1 == ("__debug__" : Str)) = false := by decide) (d2 : (x2 == ("__debug__" : Str)) = false := by decide)
    (s1 : starEach [e, .Tuple [.Name x1 p1, .Name x2 p2] kk p3] X.env = (false, eval e X.env) :: starEach [.Tuple [.Name x1 p1, .Name x2 p2] kk p3] X.env := by rfl) (s2 : starEach [.Tuple [.Name x1 p1, .Name x2 p2] kk p3] X.env = (false, eval (.Tuple [.Name x1 p1, .Name x2 p2] kk p3) X.env) :: starEach [] X.env := by rfl)
    (s3 : starEach [.Name x1 p1, .Name x2 p2] X.env = (false, eval (.Name x1 p1) X.env) :: starEach [.Name x2 p2] X.env := by rfl) (s4 : starEach [.Name x2 p2] X.env = (false, eval (.Name x2 p2) X.env) :: starEach [] X.env := by rfl) (hpl : (backTo pos (starEach [.Tuple [.Name x1 p1, .Name x2 p2] kk p3] X.env)).any (·.1) = false := by rfl) :
    PE X (.Call (.Name "isinstance" p) [e, .Tuple [.Name x1 p1, .Name x2 p2] kk p3] [] pos) (yE X.kx B (mUn (dIsi2 T1 T2) m)) :=
  pe_imp (pe_callB call_isiT hg hm (by decide +kernel) (pa_cons he (pa_cons (pe_tup (pa_cons (pe_bltn (v := .ty T1) g1 h1 b1 rfl n1 d1) (pa_cons (pe_bltn (v := .ty T2) g2 h2 b2 rfl n2 d2) pa_nil s4) s3)) pa_nil s2) s1) (by decide) (by decide) s1 hpl) fun σ H Q ⟨F, ρ, ok, q⟩ => seqB ok q fun d F' H' v e1 r q1 => by
    have k := ok.step e1
    refine ⟨by show 2 ≤ sizeLine; decide, fun t ht => ?_⟩
    unfold dIsi2 at q1
    split at q1
    · rename_i a ea
      split at q1
      · rename_i b c eb ec
        have e2 : Ext B.dl F' H' F' (upd H' t (.tup [.ty T1, .ty T2])) := .own k.fh k.dk ht _
        have k2 := k.step e2
        refine ⟨v, t, [.ty T1, .ty T2], .type a, [.type T1, .type T2], b || c, rfl, upd_same, .cons (.ty T1) (.cons (.ty T2) .nil), ty_of k2.fh ea (r.step e2), kitAny_cons (kit_ty eb) (fun hb => ?_) (fun hb => by rw [hb]; rfl), fin_bl k2.fh k2.dk (PE1.step q1 (e1.trans e2))⟩
        rw [hb]
        exact kitAny_cons (kit_ty ec) (fun hc => by rw [hc]; exact kitAny_nil) (fun hc => by rw [hc]; rfl)
      · exact q1.elim
    · exact q1.elim
end
end Y
/-! # Y24 -/
set_option Elab.async false
set_option linter.all false
set_option maxRecDepth 100000
set_option maxHeartbeats 4000000
namespace Y
open PySem PySem.Spec L2

/-! ### a class of the text, as the module's head has left it -/
theorem ClsY.cl {Z : Kx} {n : Nat} {C : Addr} (c : ClsY Z n) (h : Z.mg (clsTab n).1 = some (.ref C)) : Cls Z.K C := by
  obtain ⟨⟨C', h', cl, _⟩, _⟩ := c
  have e := h.symm.trans h'
  cases e
  exact cl
def NoAttrs (K : PySem.W.Frag) (C : Addr) : List Str → Prop
  | [] => True
  | f :: fs => PySem.W.findIn K (.ref C) f = some none ∧ NoAttrs K C fs
theorem no_attrs {K : PySem.W.Frag} {C : Addr} : ∀ {fs : List Str}, NoAttrs K C fs → ∀ f ∈ fs, NoAttr K C f
  | [], _, f, h => absurd h List.not_mem_nil
  | g :: fs, n, f, h => by
    rcases List.mem_cons.mp h with z | z
    · subst z; exact n.1
    · exact no_attrs n.2 f z
/-- a method -/
def HasM (K : PySem.W.Frag) (C : Addr) (x qual : Str) (st : Stmt) : Prop := ∃ (f : Addr) (fd : FuncData), PySem.W.findIn K (.ref C) x = some (some (.ref f)) ∧ PySem.W.isFn K (.ref f) = true ∧ Fun K x qual st f fd
theorem hasM_mk {K : PySem.W.Frag} {C : Addr} {x qual : Str} {st : Stmt} {f : Addr} {oc : Value} {od an : Option Addr} {osl : Array (Option Value)} {kV doc pm cdv ct : Value} (a : PySem.W.findIn K (.ref C) x = some (some (.ref f))) (i : PySem.W.isFn K (.ref f) = true)
    (l : K.lookup f = some ⟨oc, od, .func (PySem.W.fnOf x qual (defArgs st) (defBody st) (defScope st) .none kV doc pm an cdv ct), osl⟩) (c : PySem.W.codeIn K cdv qual = true) (k : PySem.W.keepIn K (.ref f) = true) : HasM K C x qual st := ⟨f, _, a, i, fun_mk l c k⟩
end Y
/-! # Y25 -/
set_option Elab.async false
set_option linter.all false
set_option maxRecDepth 100000
set_option maxHeartbeats 4000000
namespace Y
open PySem PySem.Spec L2 RT RZ

/-! ### reversed, zip as what is walked -/
section
variable {X : Cx} {B : Bx} {e e2 tg : Expr} {m : Rho → R D} {F : Hp}
theorem wk_revT {a : Addr} {vs : List V} {ds : List D} (h : F a = some (.tup vs)) (r : RpLX X.kx B F ds vs) : Wk X.kx B (ItvT X.K a vs.length) ds.reverse F where
  go := fun F1 H1 i s1 s2 hi => by
    rw [List.length_reverse, ← RpL.length r] at hi
    exact ⟨hi, vs, vs[vs.length - 1 - i]'(by omega), .inl (.inl (s2 _ _ (s1 _ _ h))), by simp [show vs.length - 1 - i < vs.length by omega]⟩
  stop := fun F1 H1 s1 s2 => by
    show vs.length ≤ _
    rw [List.length_reverse, RpL.length r]
    exact Nat.le_refl _
  yld := fun F1 H1 i x H2 d s1 s2 k hd y => by
    obtain ⟨rfl, y⟩ := y
    have e2 := y vs (.inl (.inl (s2 _ _ (s1 _ _ h))))
    obtain ⟨v, e, q⟩ := RpL.get (RpL.reverse r) hd
    have hi : i < vs.length := by
      obtain ⟨z, _⟩ := List.getElem?_eq_some_iff.mp e
      rw [List.length_reverse] at z
      exact z
    rw [List.getElem?_reverse hi, e2] at e
    cases e
    exact ⟨F1, .refl s2 k, Rp.mono s1 _ _ q⟩
def dRevI : D → R (List D)
  | .lst ds => .ok ds.reverse
  | .tup ds => .ok ds.reverse
  | _ => .stuck
def mRevI (m : Rho → R D) : Rho → R (List D) := fun ρ => (m ρ).bind dRevI
theorem ci_rev {p pos : Pos} (hm : X.mg "reversed" = none) (he : PE X e (yE X.kx B m)) (hg : Gl X "reversed" := by rfl) (hs : starEach [e] X.env = (false, eval e X.env) :: starEach [] X.env := by rfl) :
    PI X tg (.Call (.Name "reversed" p) [e] [] pos) (yI X.kx B (mRevI m)) := pi_imp (pi_revA hg hm he hs) fun σ H T ⟨F, ρ, ok, q⟩ => seqE ok q fun d F' H' v e1 r q1 => by
  have k := ok.step e1
  cases d with
  | lst ds =>
    unfold RpX Rp at r
    obtain ⟨a, vs, rfl, h1, r1⟩ := r
    exact ⟨a, vs, rfl, .inl ⟨.inl (.inl (k.fh _ _ h1)), q1 F' H' _ e1 (wk_revL h1 r1)⟩⟩
  | tup ds =>
    unfold RpX Rp at r
    obtain ⟨a, vs, rfl, h1, r1⟩ := r
    exact ⟨a, vs, rfl, .inr ⟨.inl (.inl (k.fh _ _ h1)), q1 F' H' _ e1 (wk_revT h1 r1)⟩⟩
  | _ => exact q1.elim
def zipD (ds es : List D) : List D := (ds.zip es).map fun p => .tup [p.1, p.2]
theorem zipD_get {ds es : List D} {i : Nat} {d : D} (h : (zipD ds es)[i]? = some d) : ∃ x y, ds[i]? = some x ∧ es[i]? = some y ∧ d = .tup [x, y] := by
  unfold zipD at h
  rw [List.getElem?_map] at h
  cases q : (ds.zip es)[i]? with
  | none => rw [q] at h; cases h
  | some p =>
    rw [q] at h
    rw [List.getElem?_zip_eq_some] at q
    exact ⟨p.1, p.2, q.1, q.2, by simpa using h.symm⟩
theorem zipD_len (ds es : List D) : (zipD ds es).length = min ds.length es.length := by simp [zipD]
theorem pair_lay {Z : Kx} {B : Bx} {F1 H1 : Hp} {T : Addr} {v w : V} {x y : D} (s : Same F1 H1) (k : DealOk B.dl H1) (nT : H1 T = none) (r : RpX Z B F1 x v) (r2 : RpX Z B F1 y w) : ∃ F2, Ext B.dl F1 H1 F2 (upd H1 T (.tup [v, w])) ∧ RpX Z B F2 (.tup [x, y]) (.ref T) :=
  ⟨_, .lay s k nT _, Rp.tup upd_same (RpL.cons (Rp.mono (same_upd (same_none s nT)) _ _ r) (RpL.cons (Rp.mono (same_upd (same_none s nT)) _ _ r2) RpL.nil))⟩
theorem wk_zipL {a b : Addr} {vs ws : List V} {ds es : List D} (h : F a = some (.lst vs)) (g : F b = some (.lst ws)) (r : RpLX X.kx B F ds vs) (r2 : RpLX X.kx B F es ws) : Wk X.kx B (Itz X.K a b) (zipD ds es) F where
  go := fun F1 H1 i s1 s2 hi => by
    rw [zipD_len, ← RpL.length r, ← RpL.length r2] at hi
    exact ⟨vs, ws, vs[i]'(by omega), ws[i]'(by omega), .inl (.inl (s2 _ _ (s1 _ _ h))), .inl (.inl (s2 _ _ (s1 _ _ g))), by simp [show i < vs.length by omega], by simp [show i < ws.length by omega]⟩
  stop := fun F1 H1 s1 s2 => ⟨vs, ws, .inl (.inl (s2 _ _ (s1 _ _ h))), .inl (.inl (s2 _ _ (s1 _ _ g))), by rw [zipD_len, RpL.length r, RpL.length r2]; omega⟩
  yld := fun F1 H1 i x H2 d s1 s2 k hd y => by
    obtain ⟨u, z, e1, e2, rfl⟩ := zipD_get hd
    obtain ⟨v, ev, q⟩ := RpL.get r e1
    obtain ⟨w, ew, q2⟩ := RpL.get r2 e2
    obtain ⟨T, p1, p2, rfl, nT, rfl, y1, y2⟩ := y
    have h1 := y1 vs (.inl (.inl (s2 _ _ (s1 _ _ h))))
    have h2 := y2 ws (.inl (.inl (s2 _ _ (s1 _ _ g))))
    rw [ev] at h1
    rw [ew] at h2
    cases h1
    cases h2
    exact pair_lay s2 k nT (Rp.mono s1 _ _ q) (Rp.mono s1 _ _ q2)
theorem wk_zipT {a b : Addr} {vs ws : List V} {ds es : List D} (h : F a = some (.tup vs)) (g : F b = some (.tup ws)) (r : RpLX X.kx B F ds vs) (r2 : RpLX X.kx B F es ws) : Wk X.kx B (ItzT X.K a b) (zipD ds es) F where
  go := fun F1 H1 i s1 s2 hi => by
    rw [zipD_len, ← RpL.length r, ← RpL.length r2] at hi
    exact ⟨vs, ws, vs[i]'(by omega), ws[i]'(by omega), .inl (.inl (s2 _ _ (s1 _ _ h))), .inl (.inl (s2 _ _ (s1 _ _ g))), by simp [show i < vs.length by omega], by simp [show i < ws.length by omega]⟩
  stop := fun F1 H1 s1 s2 => ⟨vs, ws, .inl (.inl (s2 _ _ (s1 _ _ h))), .inl (.inl (s2 _ _ (s1 _ _ g))), by rw [zipD_len, RpL.length r, RpL.length r2]; omega⟩
  yld := fun F1 H1 i x H2 d s1 s2 k hd y => by
    obtain ⟨u, z, e1, e2, rfl⟩ := zipD_get hd
    obtain ⟨v, ev, q⟩ := RpL.get r e1
    obtain ⟨w, ew, q2⟩ := RpL.get r2 e2
    obtain ⟨T, p1, p2, rfl, nT, rfl, y1, y2⟩ := y
    have h1 := y1 vs (.inl (.inl (s2 _ _ (s1 _ _ h))))
    have h2 := y2 ws (.inl (.inl (s2 _ _ (s1 _ _ g))))
    rw [ev] at h1
    rw [ew] at h2
    cases h1
    cases h2
    exact pair_lay s2 k nT (Rp.mono s1 _ _ q) (Rp.mono s1 _ _ q2)
def dZip : List D → R (List D)
  | [.lst ds, .lst es] => .ok (zipD ds es)
  | [.tup ds, .tup es] => .ok (zipD ds es)
  | _ => .stuck
theorem ci_zip {p pos tpos : Pos} {elts : List Expr} {kk : Nat} {ma : Rho → R (List D)} (hm : X.mg "zip" = none) (ha : PA X [e, e2] (yA X.kx B ma)) (hg : Gl X "zip" := by rfl) (hs : starEach [e, e2] X.env = (false, eval e X.env) :: starEach [e2] X.env := by rfl) (hpl : (backTo pos (starEach [e2] X.env)).any (·.1) = false := by rfl) :
    PI X (.Tuple elts kk tpos) (.Call (.Name "zip" p) [e, e2] [] pos) (yI X.kx B (mArgs dZip ma)) := pi_imp (pi_zipA hg hm ha hs hpl) fun σ H T ⟨F, ρ, ok, q⟩ => seqA ok q fun ds F' H' vs e1 r q1 => by
  have k := ok.step e1
  unfold dZip at q1
  split at q1
  · unfold RpLX RpL at r
    obtain ⟨v, r', rfl, r1, r2⟩ := r
    unfold RpL at r2
    obtain ⟨w, r'', rfl, r3, r4⟩ := r2
    unfold RpL at r4
    subst r4
    unfold Rp at r1 r3
    obtain ⟨a, us, rfl, h1, l1⟩ := r1
    obtain ⟨b, ws, rfl, h2, l2⟩ := r3
    exact ⟨a, b, us, ws, rfl, .inl ⟨.inl (.inl (k.fh _ _ h1)), .inl (.inl (k.fh _ _ h2)), q1 F' H' _ e1 (wk_zipL h1 h2 l1 l2)⟩⟩
  · unfold RpLX RpL at r
    obtain ⟨v, r', rfl, r1, r2⟩ := r
    unfold RpL at r2
    obtain ⟨w, r'', rfl, r3, r4⟩ := r2
    unfold RpL at r4
    subst r4
    unfold Rp at r1 r3
    obtain ⟨a, us, rfl, h1, l1⟩ := r1
    obtain ⟨b, ws, rfl, h2, l2⟩ := r3
    exact ⟨a, b, us, ws, rfl, .inr ⟨.inl (.inl (k.fh _ _ h1)), .inl (.inl (k.fh _ _ h2)), q1 F' H' _ e1 (wk_zipT h1 h2 l1 l2)⟩⟩
  · exact q1.elim
end
end Y
/-! # Z1 -/
set_option Elab.async false
set_option linter.all false
set_option maxRecDepth 100000
set_option maxHeartbeats 4000000
/-! # the text's own errors: a class over a class over Exception, its __init__ says super().__init__(message), self.field = value -/
namespace PySem
namespace OwnX
open PySem.W PySem.Calls PyProof.Rows PySem.HandSPX
/-- positions -/
structure Ps where
  a1 : Pos
  a2 : Pos
  a3 : Pos
  a4 : Pos
  a5 : Pos
  a6 : Pos
  b1 : Pos
  b2 : Pos
  b3 : Pos
  b4 : Pos
def callSuper (msg : Str) (j : Nat) (p : Ps) : Stmt := .Expr (.Call (.Attribute (.Call (.Name "super" p.a1) [] [] p.a2) "__init__" p.a3) [.Constant (.str msg) j p.a4] [] p.a5) p.a6
def setFld (fld : Str) (p : Ps) : Stmt := .Assign [.Attribute (.Name "self" p.b1) fld p.b2] (.Name fld p.b3) p.b4
/-- the tail of the text's errors: Exception and what is above it -/
abbrev tailE : List Value := ESX.exTail
/-- what the written part says of an error's class -/
structure OC (K : Frag) (C O : Addr) : Prop where
  cls : ∃ nm q N bs sn sub ab col dd k0 k1 k2 k3 k5, K.lookup C = some (excClassObj nm q C N bs (.ref O :: tailE) true sn sub ab col dd k0 k1 k2 k3 k5 "Exception.__new__")
  sa : findIn K (.ref C) "__setattr__" = some (some (.builtin "object.__setattr__"))
  al : alongIn K "__init__" (.ref O :: tailE) = some (some (.builtin "Exception.__init__"))
  tp : nsIn K cStatics "thirdparty.any" = some none
/-- what it says of the __init__: a def in the class C, with the cell cc for __class__ -/
structure OI (prog : Program) (K : Frag) (C fI : Addr) (fd : FuncData) (cc : Addr) : Prop where
  at_ : ∃ oc od osl, K.lookup fI = some ⟨oc, od, .func fd, osl⟩
  code : ∃ cda ccl cdd vs ccs file tf, fd.code = .ref cda ∧ K.lookup cda = some ⟨ccl, cdd, .fields vs, ccs⟩ ∧ vs[2]? = some (.str file tf) ∧ ((prog.main.file : Str) == file) = true
  cd : codeIn K fd.code fd.qualname = true
  cell : ∃ cl cld csl, K.lookup cc = some ⟨cl, cld, .cell (some (.ref C)), csl⟩
  clo : fd.closure = [(("__class__" : Str), cc)]
  glo : fd.globals = mainGlobals
  blt : fd.builtins = builtinsNs
  hk : fd.scope.kind = .function
  co : fd.scope.isCoroutine = false
  gn : fd.scope.isGenerator = false
  ks : fd.scope.names.lookup ("super" : Str) = some .globalImplicit
  kc : fd.scope.names.lookup ("__class__" : Str) = some .free
  kf : fd.scope.names.lookup ("self" : Str) = some .local
  nc : ∀ x ∈ fd.scope.names, x.2 ≠ .cell
  ar : ∃ a, (fd.params.posonlyargs ++ fd.params.args).head? = some a ∧ a.arg = "self"
  top : (prog.main.scope.names.lookup ("super" : Str)).isSome = false
/-- the names that are read -/
structure GB (mg : Str → Option Value) (h : Heap) : Prop where
  g : h.Ns mainGlobals mg
  miss : mg "super" = none
  b : ∃ mb, h.Ns builtinsNs mb ∧ mb "super" = some (.type "super")
theorem GB.keeps {mg : Str → Option Value} {h h' : Heap} (G : GB mg h) (k : ∀ b o, h.get? b = some o → h'.get? b = some o) : GB mg h' := by
  obtain ⟨mb, x, y⟩ := G.b
  exact ⟨G.g.keeps k, G.miss, mb, x.keeps k, y⟩
theorem mro_has2 {K : Frag} {C O : Addr} {cd : ClassData} (hcd : clsIn K C = some cd) (hm : cd.mro = .ref C :: .ref O :: tailE) {b : Value} (hb : (Value.ref C :: .ref O :: tailE).contains b = true) : mroIn K C b = some true := by
  unfold mroIn
  rw [hcd, Option.bind_some, hm, if_neg (show ¬ (List.isEmpty (Value.ref C :: .ref O :: tailE) = true) from Bool.false_ne_true), hb]
theorem tail_has2 {C O : Addr} (X : String) (hX : tailE.contains (.type X) = true) : (Value.ref C :: .ref O :: tailE).contains (.type X) = true := by
  rw [List.contains_cons, List.contains_cons, hX, Bool.or_true, Bool.or_true]
theorem OC.clsIn {K : Frag} {C O : Addr} (T : OC K C O) : ∃ cd, W.clsIn K C = some cd ∧ cd.mro = .ref C :: .ref O :: tailE ∧ cd.hasDict = true := by
  obtain ⟨nm, q, N, bs, sn, sub, ab, col, dd, k0, k1, k2, k3, k5, hC⟩ := T.cls
  exact ⟨{ name := nm, bases := bs, mro := .ref C :: .ref O :: tailE, ns := N, qualname := q, hasDict := true, slotNames := sn, subclasses := sub, abstract := ab, collection := col, hasDel := false }, by unfold W.clsIn; rw [hC], rfl, rfl⟩
section
open Builtin Builtin.ObjectAttr
variable {prog : Program} {w : World} {A : Around} {E : Value → Shared → Prop} {R : Result → Shared → Prop} {hp : Heap} {g : Array GenState} {d : Drawn} {t : Nat} {os : OsState}
/-- the walk to the own dict -/
theorem osa2 {K : Frag} {name : Str} {tk : Tok} {v : Value} {x C O : Addr} {ox : Obj} {od : Option Obj} {cd : ClassData}
    (X : K.In hp) (I : InstAt hp x ox C od) (hcd : W.clsIn K C = some cd) (hm : cd.mro = .ref C :: .ref O :: tailE) (ha : findIn K (.ref C) name = some none)
    (hq : wpAny (model prog w) A.in1 (storeInOwnDict (.ref x) (.ref C) (.str name tk) name v false)
      (fun fin s' => match fin with | .done f => R (.ok f) s' | .again c' => c'.quiet = true ∧ codeAny (model prog w) A c' R s') (fun e s' => R (.error e) s') ⟨hp, g, d, t, os⟩) :
    codeAny (model prog w) A (.call (.builtin "object.__setattr__") ⟨[.ref x, .str name tk, v], []⟩) R ⟨hp, g, d, t, os⟩ := by
  have SF := F.store_object
  have sub : Looks (model prog w) hp (isInstance (.ref x) (.type "object")) true := I.type.andThen (looks_mroIn X (mro_has2 hcd hm (tail_has2 "object" (by decide +kernel))))
  refine codeAny_call_builtin SF.slot.plain SF.entry (@check_slot (model prog w) _ _ ⟨hp, g, d, t, os⟩ "object.__setattr__" "object" "__setattr__" (.ref x) [.str name tk, v] [] _ SF.kind SF.split sub (SF.args (.ref x) (.str name tk) v) ?_)
  have hmr : Looks (model prog w) hp (mroOf (.ref C)) cd.mro := (looks_clsIn X hcd).andThen .now
  have L3 : Looks (model prog w) hp (storeTaker? none) none := .now
  have hpass : refuseLoop (.ref x) "__setattr__" cd.mro = pure () := by
    rw [hm, refuseLoop_ref, refuseLoop_ref]
    exact F.store_Exception.passes _
  rw [osa_eq, refuse_eq]
  refine wpAny_bind (wpAny_bind (I.type.at (wpAny_bind (hmr.at ?_))))
  rw [hpass]
  refine wpAny_pure (wpAny_bind (I.type.at (wpAny_bind ((looks_findIn X ha).at (wpAny_bind (L3.at ?_))))))
  exact hq
/-- the first field -/
theorem osa_new2 {K : Frag} {name : Str} {tk : Tok} {v : Value} {x C O : Addr} {fv : Array Value}
    (T : OC K C O) (X : K.In hp) (hx : hp.get? x = some { cls := .ref C, data := .fields fv }) (ha : findIn K (.ref C) name = some none)
    (hq : ∀ h' tk' dx, (∀ b o, b ≠ x → hp.get? b = some o → h'.get? b = some o) → hp.objs.size ≤ dx → dx ≠ x → h'.get? x = some { cls := .ref C, dict := some dx, data := .fields fv } →
      h'.Ns1 dx (fun y => if y = name then some v else none) → R (.ok (.ret .none)) ⟨h', g, d, tk', os⟩) :
    codeAny (model prog w) A (.call (.builtin "object.__setattr__") ⟨[.ref x, .str name tk, v], []⟩) R ⟨hp, g, d, t, os⟩ := by
  obtain ⟨cd, hcd, hm, hh⟩ := T.clsIn
  have I : InstAt hp x { cls := .ref C, data := .fields fv } C none := ⟨hx, rfl, rfl, trivial⟩
  have hxs : x ≠ hp.objs.size := Nat.ne_of_lt (Heap.lt_size hx)
  refine osa2 X I hcd hm ha ?_
  have hcls : Looks (model prog w) hp (classData C) cd := looks_clsIn X hcd
  obtain ⟨nm, bs, mro, ns, qn, hd, sn, sb, ab, col, del⟩ := cd
  dsimp only at hh
  subst hh
  unfold storeInOwnDict ownDictForStores
  repeat (first | with_reducible refine HandSPX.store_in_new ?_ ?_ | with_reducible refine wpAny_loadPart_at hx ?_ | with_reducible refine hcls.at ?_ | wp_step)
  · exact ⟨_, #[], _, (Heap.get?_update_ne _ _ _ _ hxs.symm).trans (Heap.get?_push_at rfl rfl), rfl, fun e he => absurd he (by simp), fun _ => rfl⟩
  · intro h' tk' hn' hs
    have hx₁ : (hp.push { cls := .type "dict", data := .dict #[] }).get? x = some { cls := .ref C, data := .fields fv } := Heap.get?_push_of_some _ hx
    refine hq h' tk' hp.objs.size (fun b o hb ho => ?_) (Nat.le_refl _) hxs.symm ?_ hn'
    · exact (hs.2 b (Nat.ne_of_lt (Heap.lt_size ho))).trans ((Heap.get?_update_ne _ _ _ _ hb).trans (Heap.get?_push_of_some _ ho))
    · exact (hs.2 x hxs).trans (Heap.get?_update_self _ hx₁ rfl)
end
section
variable {prog : Program} {w : World} {A : Around} {E : Value → Shared → Prop} {R : Result → Shared → Prop} {s : Shared} {K : Frag} {mg : Str → Option Value} {C O fI cc : Addr} {fd : FuncData}
theorem call_shape (o : Expr) (env : Env) {name : Str} {apos pos : Pos} {args : List Expr} (hpos : (apos.endLine == pos.line) = true) : eval (.Call (.Attribute o name apos) args [] pos) env = (do
      let ov ← attributeBase o name env (eval o env)
      standAt apos.atName
      let (f, first) ← holding [ov] (calleeOf (methodCallForm (args.length + 0) (backTo pos (starEach args env)) (backToKw pos (keywordEach [] env))) o env ov name)
      callWith pos f first (backTo pos (starEach args env)) []) := by
  have e : methodCallPos (methodCallForm (args.length + 0) (backTo pos (starEach args env)) (backToKw pos (keywordEach [] env))) o env apos pos = pure pos := by
    unfold methodCallPos
    rw [hpos, Bool.or_true]
    rfl
  rw [PySem.arm_eval_Call]
  unfold methodCall
  show (do
    let ov ← attributeBase o name env (eval o env)
    standAt apos.atName
    let (f, first) ← holding [ov] (calleeOf (methodCallForm (args.length + 0) (backTo pos (starEach args env)) (backToKw pos (keywordEach [] env))) o env ov name)
    let callPos ← methodCallPos (methodCallForm (args.length + 0) (backTo pos (starEach args env)) (backToKw pos (keywordEach [] env))) o env apos pos
    callWith callPos f first (backTo pos (starEach args env)) []) = _
  rw [e]
  rfl
/-- super().__init__(message), in the frame of the __init__ -/
theorem super_line {env : Env} {body : List Stmt} {x t0 L : Addr} {msg : Str} {j : Nat} {p : Ps} {m : Str → Option Value} {Q : Flow → Shared → Prop} (T : OC K C O) (I : OI prog K C fI fd cc) (X : K.In s.heap) (G : GB mg s.heap)
    (hpos : (p.a3.endLine == p.a5.line) = true) (he : env = callEnv fd L fI) (hn : s.heap.Ns L m) (hv : m "self" = some (.ref x)) (hx : s.heap.get? x = some (excO C t0)) (hnx : K.lookup x = none)
    (hq : ∀ h' tk t1, (∀ b o, b ≠ x → s.heap.get? b = some o → h'.get? b = some o) → h'.get? x = some (excO C t1) → Q .next { s with heap := h', toks := tk }) :
    wpAt (model prog w) A (.func body env) (exec (callSuper msg j p) env) Q E s := by
  subst he
  obtain ⟨oc, od, osl, hf⟩ := I.at_
  obtain ⟨cda, ccl, cdd, vs, ccs, file, tf, hco, hcc, hvs, hfile⟩ := I.code
  obtain ⟨cl, cld, csl, hcell⟩ := I.cell
  obtain ⟨ar, har, hself⟩ := I.ar
  obtain ⟨cd, hcd, hm, hh⟩ := T.clsIn
  obtain ⟨nm, q, N, bs, sn, sub, ab, col, dd, k0, k1, k2, k3, k5, hC⟩ := T.cls
  obtain ⟨mb, hb, hbs⟩ := G.b
  have Ix : InstAt s.heap x (excO C t0) C none := ⟨hx, rfl, rfl, trivial⟩
  have hsub : Looks (model prog w) s.heap (isSubtype (.ref C) (.ref C)) true := looks_mroIn X (mro_has2 hcd hm (by simp))
  obtain ⟨hp, g, d, t, os⟩ := s
  refine ks_wpAt_Expr_any (ks_wpAt_MethodCall (he := call_shape _ _ hpos) (ks_wpAt_super_base (env := callEnv fd L fI) I.ks I.kc (by decide) rfl (X _ _ hf) rfl har hco (X _ _ hcc) rfl hvs hfile I.top ?_)) (by
    unfold interactive
    rw [show (callEnv fd L fI).scope.kind = .function from I.hk]
    rfl) rfl
  refine ks_loadName_global I.hk I.ks (loadGlobal_builtin (env := callEnv fd L fI) (mg := mg) (by show hp.Ns fd.globals mg; rw [I.glo]; exact G.g) G.miss (by show hp.Ns fd.builtins mb; rw [I.blt]; exact hb) hbs ⟨rfl, ?_⟩)
  refine wpAny_loadName_free I.hk I.kc (c := cc) (v := .ref C) (by show fd.closure.lookup _ = _; rw [I.clo]; rfl) ⟨_, X _ _ hcell, rfl⟩ ?_
  rw [hself]
  refine wpAny_loadName_local I.hk I.kf hn hv ?_
  refine ks_wpAny_isType_cls (X _ _ hC) rfl ⟨rfl, ?_⟩
  refine ks_wpAny_call_super (X _ _ hC) rfl hx rfl (fun c e => by cases e) hsub (fun h1 e1 k1' => ?_)
  have X1 : K.In h1 := X.keeps k1'
  have hx1 := k1' _ _ hx
  have Ix1 : InstAt h1 x (excO C t0) C none := ⟨hx1, rfl, rfl, trivial⟩
  have hxC : x ≠ C := fun z => by
    rw [z, hC] at hnx
    cases hnx
  refine ESX.getMethod_super e1 (looks_opaque X1 T.tp) (l₀ := cd.mro) ((looks_clsIn X1 hcd).andThen .now) (by rw [hm]; exact ESX.drop_own C _) X1 T.al hxC (by decide) (Ix1.type.andThen (looks_mroIn X1 (mro_has2 hcd hm (tail_has2 "Exception" (by decide +kernel))))) ?_
  have k2' : ∀ b o, h1.get? b = some o → (h1.push (ESX.bw x)).get? b = some o := fun b o e => Heap.get?_push_of_some _ e
  refine ESX.callWith_bound (x := x) (spliced_more (wpAny_Constant_str (spliced_none ⟨Heap.get?_push_at rfl rfl, ?_⟩)))
  refine ESX.call_bw (k2' _ _ (X1 _ _ hC)) (k2' _ _ hx1) (Heap.get?_push_at rfl rfl) (by rw [sizeLine_eq]; exact (by decide : 1 ≤ 16777216)) fun h' t1 k3 hx' => ?_
  exact hq h' _ t1 (fun b o hb e => k3 b o hb (k2' b o (k1' b o e))) hx'
end
end OwnX
end PySem
/-! # Z2 -/
set_option Elab.async false
set_option linter.all false
set_option maxRecDepth 100000
set_option maxHeartbeats 4000000
namespace PySem
namespace OwnX
open PySem.W PySem.Calls PyProof.Rows PySem.HandSPX
section
variable {prog : Program} {w : World} {A : Around} {E : Value → Shared → Prop} {R : Result → Shared → Prop} {s : Shared} {K : Frag} {mg : Str → Option Value} {C O fI cc : Addr} {fd : FuncData} {msg fld : Str} {j : Nat} {p : Ps}
/-- the object, its dict at dx -/
abbrev excD (C t1 dx : Addr) : Obj := { cls := .ref C, dict := some dx, data := .fields #[.ref t1, .none, .none, .none, .bool false, .none] }
/-- an __init__ with one field -/
structure O1 (K : Frag) (C : Addr) (fd : FuncData) (fld : Str) : Prop where
  body : ∃ msg j p, fd.body = .stmts [callSuper msg j p, setFld fld p] ∧ (p.a3.endLine == p.a5.line) = true
  fl : fd.scope.names.lookup fld = some .local
  sf : (fld == ("self" : Str)) = false
  db : (fld == ("__debug__" : Str)) = false
  no : findIn K (.ref C) fld = some none
  bind : ∀ (x : Addr) (v : Value), bindArgs fd ⟨[.ref x, v], []⟩ = pure [(("self" : Str), Value.ref x), (fld, v)]
/-- an __init__ with none -/
structure O0 (fd : FuncData) : Prop where
  body : ∃ msg j p, fd.body = .stmts [callSuper msg j p] ∧ (p.a3.endLine == p.a5.line) = true
  bind : ∀ (x : Addr), bindArgs fd ⟨[.ref x], []⟩ = pure [(("self" : Str), Value.ref x)]
theorem init_one (T : OC K C O) (I : OI prog K C fI fd cc) (I1 : O1 K C fd fld) {x t0 : Addr} {v : Value} (X : K.In s.heap) (G : GB mg s.heap) (hlim : s.heap.NoLimit) (hx : s.heap.get? x = some (excO C t0)) (hnx : K.lookup x = none) (hroom : A.depth < recursionLimit)
    (hq : ∀ h' tk dx t1, (∀ b o, b ≠ x → s.heap.get? b = some o → h'.get? b = some o) → s.heap.objs.size ≤ dx → dx ≠ x → h'.get? x = some (excD C t1 dx) → h'.Ns1 dx (fun y => if y = fld then some v else none) → R (.ok (.ret .none)) { s with heap := h', toks := tk }) :
    codeAny (model prog w) A (.call (.ref fI) ⟨[.ref x, v], []⟩) R s := by
  obtain ⟨msg, j, p, hbody, hpos⟩ := I1.body
  obtain ⟨oc, od, osl, hf⟩ := I.at_
  refine ks_codeAny_call_defAt (binds := [("self", .ref x), (fld, v)]) hroom (X _ _ hf) rfl hlim (codeRec_of X I.cd) hbody (BindsTo.of_eq (I1.bind x v)) I.nc (fun y hy => ?_) (fun h₁ hns k₁ => ?_) I.co I.gn I.hk
  · simp only [List.mem_cons, List.not_mem_nil, or_false] at hy
    rcases hy with rfl | rfl
    · exact I.kf
    · exact I1.fl
  have hself : (fun y => List.lookup y ([(("self" : Str), Value.ref x), (fld, v)] : List (Str × Value)).reverse) "self" = some (.ref x) := by
    have e : (("self" : Str) == fld) = false := by
      cases z : (("self" : Str) == fld) with
      | false => rfl
      | true =>
        have := eq_of_beq z
        have y := I1.sf
        rw [← this] at y
        exact absurd y (by simp)
    show List.lookup ("self" : Str) [(fld, v), (("self" : Str), Value.ref x)] = _
    simp [List.lookup, e]
  have hfld : (fun y => List.lookup y ([(("self" : Str), Value.ref x), (fld, v)] : List (Str × Value)).reverse) fld = some v := by
    show List.lookup fld [(fld, v), (("self" : Str), Value.ref x)] = _
    simp [List.lookup]
  have hxL : x ≠ s.heap.objs.size := Nat.ne_of_lt (Heap.lt_size hx)
  refine ks_wpAt_execs_cons (super_line (s := { s with heap := h₁, toks := _ }) T I (X.keeps k₁) (G.keeps k₁) hpos rfl hns hself (k₁ _ _ hx) hnx fun h' tk t1 k hx' => ?_)
  have kk : ∀ b o, b ≠ x → s.heap.get? b = some o → h'.get? b = some o := fun b o hb e => k b o hb (k₁ b o e)
  have X' : K.In h' := fun a o e => by
    refine kk a o (fun z => ?_) (X _ _ e)
    rw [z, hnx] at e
    cases e
  have hns' : h'.Ns s.heap.objs.size _ := hns.at fun o e => k _ o (Ne.symm hxL) e
  refine wpAt_of_wpAny ?_
  show wpAny _ _ (execs [setFld fld p] _) _ _ _
  refine wpAny_execs_cons (plainObj_wpAny_Assign_Attribute ?_ rfl)
  refine ESX.ldL (env := callEnv fd s.heap.objs.size fI) hns' hfld (ESX.ldL (env := callEnv fd s.heap.objs.size fI) hns' hself ?_ I.hk I.kf) I.hk I1.fl I1.db
  refine set_plain X' (ox := excO C t1) (od := none) ⟨hx', rfl, rfl, trivial⟩ T.sa ?_
  refine osa_new2 T X' hx' I1.no fun h3 tk3 dx k3 dn dne hx3 hn3 => ?_
  have z : s.heap.objs.size < h'.objs.size := hns'.lt
  show wpAny _ _ (execs _ _) _ _ _
  exact wpAny_execs_nil (hq h3 tk3 dx t1 (fun b o hb e => k3 b o hb (kk b o hb e)) (Nat.le_of_lt (Nat.lt_of_lt_of_le z dn)) dne hx3 hn3)
theorem init_none (T : OC K C O) (I : OI prog K C fI fd cc) (I0 : O0 fd) {x t0 : Addr} (X : K.In s.heap) (G : GB mg s.heap) (hlim : s.heap.NoLimit) (hx : s.heap.get? x = some (excO C t0)) (hnx : K.lookup x = none) (hroom : A.depth < recursionLimit)
    (hq : ∀ h' tk t1, (∀ b o, b ≠ x → s.heap.get? b = some o → h'.get? b = some o) → h'.get? x = some (excO C t1) → R (.ok (.ret .none)) { s with heap := h', toks := tk }) :
    codeAny (model prog w) A (.call (.ref fI) ⟨[.ref x], []⟩) R s := by
  obtain ⟨msg, j, p, hbody, hpos⟩ := I0.body
  obtain ⟨oc, od, osl, hf⟩ := I.at_
  refine ks_codeAny_call_defAt (binds := [("self", .ref x)]) hroom (X _ _ hf) rfl hlim (codeRec_of X I.cd) hbody (BindsTo.of_eq (I0.bind x)) I.nc (fun y hy => ?_) (fun h₁ hns k₁ => ?_) I.co I.gn I.hk
  · simp only [List.mem_cons, List.not_mem_nil, or_false] at hy
    rcases hy with rfl
    exact I.kf
  have hself : (fun y => List.lookup y ([(("self" : Str), Value.ref x)] : List (Str × Value)).reverse) "self" = some (.ref x) := by
    show List.lookup ("self" : Str) [(("self" : Str), Value.ref x)] = _
    simp [List.lookup]
  refine ks_wpAt_execs_cons (super_line (s := { s with heap := h₁, toks := _ }) T I (X.keeps k₁) (G.keeps k₁) hpos rfl hns hself (k₁ _ _ hx) hnx fun h' tk t1 k hx' => ?_)
  refine wpAt_of_wpAny ?_
  exact wpAny_execs_nil (hq h' tk t1 (fun b o hb e => k b o hb (k₁ b o e)) hx')
/-- a made error with one field -/
structure Made1 (h h' : Heap) (e C d : Addr) (fld : Str) (v : Value) : Prop where
  keep : ∀ b o, h.get? b = some o → h'.get? b = some o
  new : h.objs.size ≤ e
  obj : ∃ t1, h'.get? e = some (excD C t1 d)
  dbig : h.objs.size ≤ d
  dne : d ≠ e
  ns : h'.Ns1 d (fun y => if y = fld then some v else none)
/-- C(v) -/
theorem made_one (T : OC K C O) (I : OI prog K C fI fd cc) (I1 : O1 K C fd fld) (iC : findIn K (.ref C) "__init__" = some (some (.ref fI))) (tC : typeIn K (.ref fI) = some (.type "function")) {v : Value} (X : K.In s.heap) (G : GB mg s.heap) (hlim : s.heap.NoLimit) (hroom : A.depth + 1 < recursionLimit)
    (hq : ∀ h' tk e d, Made1 s.heap h' e C d fld v → R (.ok (.ret (.ref e))) { s with heap := h', toks := tk }) :
    codeAny (model prog w) A (.call (.ref C) ⟨[v], []⟩) R s := by
  obtain ⟨nm, q, N, bs, sn, sub, ab, col, dd, k0, k1, k2, k3, k5, hC⟩ := T.cls
  obtain ⟨hp, g, dr, tk, os⟩ := s
  have k : ∀ b o, hp.get? b = some o → ((hp.push (kdv_tup [v])).push (excO C hp.objs.size)).get? b = some o := fun b o e => Heap.get?_push_of_some _ (Heap.get?_push_of_some _ e)
  have hget : ((hp.push (kdv_tup [v])).push (excO C hp.objs.size)).get? (hp.objs.size + 1) = some (excO C hp.objs.size) := by heap_get
  have hnx : K.lookup (hp.objs.size + 1) = none := by
    cases e : K.lookup (hp.objs.size + 1) with
    | none => rfl
    | some o =>
      have z : hp.get? (hp.objs.size + 1) = some o := X _ _ e
      exact absurd (Nat.lt_of_succ_lt (Heap.lt_size z)) (Nat.lt_irrefl _)
  refine call_own F.excBase_Exception (fun X => by rw [List.contains_cons]; rfl) (X _ _ hC) (looks_findIn X iC) (fun self => bind_fn X self tC) (by rw [sizeLine_eq]; exact (by decide : 1 ≤ 16777216)) ?_
  refine init_one (s := ⟨(hp.push (kdv_tup [v])).push (excO C hp.objs.size), g, dr, tk, os⟩) T I I1 (X.keeps k) (G.keeps k) (hlim.keeps k) hget hnx (by show A.depth + 1 < recursionLimit; exact hroom) fun h' tk' dx t1 k' dn dne hx hns => ?_
  have old : ∀ b o, hp.get? b = some o → h'.get? b = some o := fun b o e => k' b o (Nat.ne_of_lt (Nat.lt_succ_of_lt (Heap.lt_size e))) (k b o e)
  have z : hp.objs.size + 1 + 1 ≤ dx := by
    first
      | (simpa only [Heap.size_push] using dn)
      | exact dn
      | (have q := dn; rw [Heap.size_push, Heap.size_push] at q; exact q)
  exact ⟨rfl, hq h' tk' (hp.objs.size + 1) dx ⟨old, Nat.le_succ _, ⟨t1, hx⟩, Nat.le_trans (Nat.le_trans (Nat.le_succ _) (Nat.le_succ _)) z, dne, hns⟩⟩
end
end OwnX
end PySem
/-! # Z3 -/
set_option Elab.async false
set_option linter.all false
set_option maxRecDepth 100000
set_option maxHeartbeats 4000000
namespace Y
open PySem PySem.Spec PyProof.Rows L2 PySem.OwnX
/-- what the text's head has left of an error's class with one field -/
structure ErrY (P : Program) (Z : Kx) (n : Nat) : Prop where
  ex : ∃ C O fI fd cc fld, Z.mg (clsTab n).1 = some (.ref C) ∧ OC Z.K C O ∧ OI P Z.K C fI fd cc ∧ PySem.W.findIn Z.K (.ref C) "__init__" = some (some (.ref fI)) ∧ PySem.W.typeIn Z.K (.ref fI) = some (.type "function") ∧ PySem.W.keepIn Z.K (.ref C) = true ∧
    PySem.W.subIn Z.K (.ref C) (.type "BaseException") = some true ∧ PySem.W.typeIn Z.K (.ref C) = some (.type "type") ∧ (clsTab n).2 = [fld] ∧ O1 Z.K C fd fld
  su : Z.mg "super" = none
theorem relO_one {fld : Str} {v : V} {v' : Value} (r : RelV v v') (f : Str) : RelO (List.lookup f [(fld, v)]) (if f = fld then some v' else none) := by
  by_cases hw : f = fld
  · subst hw
    rw [if_pos rfl]
    have q : List.lookup f [(f, v)] = some v := by simp [List.lookup]
    rw [q]
    exact r
  · rw [if_neg hw]
    have qw : (f == fld) = false := by simpa using hw
    have q2 : List.lookup f [(fld, v)] = none := by simp [List.lookup, qw]
    rw [q2]
    trivial
section
variable {X : Cx} {B : Bx} {k n : Nat} {x : Str} {pos p : Pos} {e : Expr} {es : List Expr}
/-- C(e) -/
theorem pmk_one {C O fI cc : Addr} {fd : FuncData} {fld : Str} {a : Expr} {ta : TA} (T : OC X.K C O) (I0 : OI X.prog X.K C fI fd cc) (I1 : O1 X.K C fd fld) (iC : PySem.W.findIn X.K (.ref C) "__init__" = some (some (.ref fI))) (tC : PySem.W.typeIn X.K (.ref fI) = some (.type "function"))
    (kC : PySem.W.keepIn X.K (.ref C) = true) (exC : PySem.W.subIn X.K (.ref C) (.type "BaseException") = some true) (tyC : PySem.W.typeIn X.K (.ref C) = some (.type "type")) (gC : X.mg x = some (.ref C)) (su : X.mg "super" = none)
    (hr : Room k X.A) (ha : PA X [a] ta) (hg : Gl X x) (hdb : (x == ("__debug__" : Str)) = false := by decide)
    (he : starEach (a :: []) X.env = (false, eval a X.env) :: starEach [] X.env := by rfl) (hpl : (backTo pos (starEach [] X.env)).any (·.1) = false := by rfl) :
    PMk X (.Call (.Name x p) [a] [] pos) (fun σ H Q => ta σ H fun vs H1 => ∃ v, vs = [v] ∧ ∀ d, H1 d = none → Q (.ref C) (some d) (upd H1 d (.xd [(fld, v)]))) := by
  intro pins s σ H Q I h
  refine wpAny_Call_Name_kw (ld_glob I hg gC ?_ hdb)
  refine PySem.W.callWith_K (h₀ := X.base) I.ok.mod.kin kC (thn (ha.run pos pins s σ H _ I h) fun us s1 hh => ?_) he hpl
  obtain ⟨vs, H1, J1, r1, v, ev, q1⟩ := hh
  subst ev
  refine ⟨J1.kIn, ?_⟩
  cases r1 with
  | cons rv rn =>
    rename_i v' us'
    cases rn
    show wpAny _ _ (call (.ref C) [v']) _ _ _
    have hlim := J1.nolimit
    have GBs : GB X.mg s1.heap := by
      obtain ⟨mb, h1, h2⟩ := J1.mod.blt
      exact ⟨J1.mod.glob.keeps J1.bk, su, mb, h1.keeps J1.bk, (h2 "super" (by decide)).trans (by decide +kernel)⟩
    obtain ⟨hp, g, dr, tk, os⟩ := s1
    refine wpAny_call (made_one T I0 I1 iC tC J1.kIn GBs hlim (by have := hr.dp; omega) fun h' tk' e d M => ?_)
    show MkP X pins σ Q (.ref e) ⟨h', g, dr, tk', os⟩
    obtain ⟨t1, hoe⟩ := M.obj
    have hns := M.ns
    obtain ⟨G', g1, g2⟩ := restrict h' fun b => decide (b ≠ e)
    have gk : ∀ b, b ≠ e → G'.get? b = h'.get? b := fun b hb => g1 b (decide_eq_true hb)
    have ge : G'.get? e = none := g2 e (by simp)
    have old : ∀ b o, hp.get? b = some o → G'.get? b = some o := fun b o q => (gk b (Nat.ne_of_lt (Nat.lt_of_lt_of_le (Heap.lt_size q) M.new))).trans (M.keep b o q)
    have ob : ObjOk X.prog X.w (upd H1 d (.xd [(fld, v)])) G' d (.xd [(fld, v)]) :=
      ⟨_, hns.at (fun o q => (gk d M.dne).trans q), fun f => relO_one rv f⟩
    have J : Inv X pins σ (upd H1 d (.xd [(fld, v)])) ⟨G', g, dr, tk', os⟩ := J1.laid (t' := tk') old M.dbig ob
    refine ⟨e, _, _, ⟨G', g, dr, tk', os⟩, _, .ref C, some d, rfl, J, fun b o q => ?_, ge, hoe, ⟨rfl, rfl⟩, rfl, rfl, ?_, rfl, J1.bare, raises_own exC tyC, q1 d (J1.hok.fresh M.dbig)⟩
    · by_cases hb : b = e
      · have q' : G'.get? b = some o := q
        rw [hb, ge] at q'; cases q'
      · exact (gk b hb).symm.trans q
    · rw [upd_ne (Ne.symm M.dne)]
      exact J1.hok.fresh M.new
/-- raise C(e) -/
def mRaise (n : Nat) (ma : Rho → R (List D)) : Rho → R Out := fun ρ => lift ρ (ma ρ) fun ds => R.grd (ds.length = 1) (.ok (.exc (.obj n ds) ρ))
theorem cs_raise (n : Nat) {ma : Rho → R (List D)} (hn : ErrY X.prog X.kx n) (ha : PA X [e] (yA X.kx B ma)) (hc : X.calm = true) (tk : Takes X B.W) (hr : RG k X.A) (hg : Gl X x := by rfl) (hx : (clsTab n).1 = x := by rfl) (hdb : (x == ("__debug__" : Str)) = false := by decide)
    (hs : starEach (e :: []) X.env = (false, eval e X.env) :: starEach [] X.env := by rfl) (hpl : (backTo pos (starEach [] X.env)).any (·.1) = false := by rfl) :
    PS X (.Raise (some (.Call (.Name x p) [e] [] pos)) none pos2) (yS X.kx B (mRaise n ma)) := by
  subst hx
  obtain ⟨C, O, fI, fd, cc, fld, gC, T, I0, iC, tC, kC, exC, tyC, hf, I1⟩ := hn.ex
  have pm := pmk_one (pos := pos) (p := p) (x := (clsTab n).1) (k := k) T I0 I1 iC tC kC exC tyC gC hn.su hr.room ha hg hdb hs hpl
  refine ps_imp (ps_raise hc tk pm) fun D σ H ⟨F, ρ, ok, q⟩ => ?_
  refine sA ok q fun ds F' H' vs e1 r1 q1 => ?_
  obtain ⟨hl, q2⟩ := R.all_grd.mp q1
  have k := ok.step e1
  obtain ⟨d0, rfl⟩ : ∃ d0, ds = [d0] := by
    match ds, hl with
    | [d0], _ => exact ⟨d0, rfl⟩
  unfold RpLX RpL at r1
  obtain ⟨v0, vs0, rfl, r0, r2⟩ := r1
  unfold RpL at r2
  subst r2
  refine ⟨v0, rfl, fun d hd => ?_⟩
  have hF : F' d = none := same_none k.fh hd
  refine q2 (upd F' d (.xd [(fld, v0)])) (upd H' d (.xd [(fld, v0)])) σ (.ref C) (some d) (same_upd hF) (k.step (Ext.lay k.fh k.dk hd _)) ⟨C, gC, rfl, d, [(fld, v0)], rfl, upd_same, by rw [hf]; rfl, ?_⟩
  exact RpL.mono (same_upd hF) _ _ (RpL.cons r0 (by unfold RpL; rfl))
end
end Y
/-! # Z4 -/
set_option Elab.async false
set_option linter.all false
set_option maxRecDepth 100000
set_option maxHeartbeats 4000000
namespace Y
open PySem PySem.Spec PyProof.Rows L2
/-! ### try: .. except C as e: .. -/
/-- error n is a C (19: OnceError) -/
def errIs (c n : Nat) : Bool := if c = 19 then decide (20 ≤ n ∧ n ≤ 34) else c == n
/-- no object is being made here, no error is held -/
def noX : List Sl → Bool
  | [] => true
  | .me _ _ :: _ => false
  | .ex _ _ :: _ => false
  | _ :: r => noX r
theorem noX_me : ∀ {ρ : List Sl} {j c : Nat} {es : List D}, noX ρ = true → ρ[j]? = some (.me c es) → False
  | [], j, c, es, _, h => by simp at h
  | s :: ρ, 0, c, es, n, h => by
    simp at h
    subst h
    cases n
  | s :: ρ, j + 1, c, es, n, h => by
    simp at h
    refine noX_me (ρ := ρ) ?_ h
    cases s with
    | me c ds => cases n
    | ex c ds => cases n
    | dc kvs => exact n
    | no => exact n
    | sh d => exact n
    | ow ds => exact n
theorem noX_ex : ∀ {ρ : List Sl} {j c : Nat} {es : List D}, noX ρ = true → ρ[j]? = some (.ex c es) → False
  | [], j, c, es, _, h => by simp at h
  | s :: ρ, 0, c, es, n, h => by
    simp at h
    subst h
    cases n
  | s :: ρ, j + 1, c, es, n, h => by
    simp at h
    refine noX_ex (ρ := ρ) ?_ h
    cases s with
    | me c ds => cases n
    | ex c ds => cases n
    | dc kvs => exact n
    | no => exact n
    | sh d => exact n
    | ow ds => exact n
section
variable {Z : Kx} {B : Bx} {F H : Hp} {σ : L2.St} {ρ : Rho}
/-- the same base but for what is made, held and wished -/
theorem Ok.base {B' : Bx} (k : Ok Z B F H σ ρ) (n : noX ρ = true) (h1 : B'.dl = B.dl) (h2 : B'.F = B.F) (h3 : B'.H = B.H) : Ok Z B' F H σ ρ := by
  obtain ⟨dl, F0, H0, W, x, hd⟩ := B
  obtain ⟨dl', F0', H0', W', x', hd'⟩ := B'
  simp only at h1 h2 h3
  subst h1 h2 h3
  refine ⟨k.ext, k.df, k.dk0, k.len, fun i s e => ?_, k.inj⟩
  have q := k.sl i s e
  cases s with
  | no => trivial
  | sh d => exact q
  | ow ds => exact q
  | me c ds => exact (noX_me n e).elim
  | ex c ds => exact (noX_ex n e).elim
  | dc kvs => exact q
theorem Ok.wish (k : Ok Z B F H σ ρ) (W : WX) : Ok Z { B with W := W } F H σ ρ := ⟨k.ext, k.df, k.dk0, k.len, k.sl, k.inj⟩
theorem Ok.unwish {W : WX} (k : Ok Z { B with W := W } F H σ ρ) : Ok Z B F H σ ρ := ⟨k.ext, k.df, k.dk0, k.len, k.sl, k.inj⟩
/-- the error that is held -/
theorem Ok.hold (k : Ok Z B F H σ ρ) {n i : Nat} {ds : List D} {C dd : Addr} {fs : List (Str × V)} (hx : B.hd = some (.ref C, dd)) (g : Z.mg (clsTab n).1 = some (.ref C)) (q : F dd = some (.xd fs)) (ek : fs.map (·.1) = (clsTab n).2.take ds.length) (r : RpLX Z B F ds (fs.map (·.2))) :
    Ok Z B F H (σ.set i (some (.ref B.x))) (ρ.set i (.ex n ds)) := by
  have z := k.no i
  refine ⟨z.ext, z.df, z.dk0, by rw [List.length_set, List.length_set]; exact k.len, fun j s e => ?_, fun j l es ts a ne e1 e2 e3 e4 => ?_⟩
  · by_cases h : i = j
    · subst h
      have hi : i < ρ.length := by
        rcases Nat.lt_or_ge i ρ.length with y | y
        · exact y
        · rw [List.getElem?_eq_none (by rw [List.length_set]; exact y)] at e
          cases e
      rw [List.getElem?_set_self hi] at e
      cases e
      exact ⟨C, dd, fs, by rw [List.getElem?_set_self (by rw [k.len]; exact hi)], hx, g, q, ek, r⟩
    · rw [List.getElem?_set_ne h] at e ⊢
      exact k.sl j s e
  · have w1 : i ≠ j := fun z => by
      subst z
      rw [List.getElem?_set] at e1
      simp only [if_true] at e1
      split at e1 <;> cases e1
    have w2 : i ≠ l := fun z => by
      subst z
      rw [List.getElem?_set] at e2
      simp only [if_true] at e2
      split at e2 <;> cases e2
    rw [List.getElem?_set_ne w1] at e1 e3
    rw [List.getElem?_set_ne w2] at e2 e4
    exact k.inj j l _ _ a ne e1 e2 e3 e4
/-- a name that goes -/
theorem Ok.gone (k : Ok Z B F H σ ρ) (i : Nat) : Ok Z B F H (σ.set i Option.none) (ρ.set i .no) := by
  have z := k.no i
  refine ⟨z.ext, z.df, z.dk0, by rw [List.length_set]; exact z.len, fun j s e => ?_, fun j l es ts a ne e1 e2 e3 e4 => ?_⟩
  · by_cases h : i = j
    · subst h
      rw [List.getElem?_set] at e
      simp only [if_true] at e
      split at e
      · cases e; trivial
      · cases e
    · rw [List.getElem?_set_ne h]
      exact z.sl j s e
  · have w1 : i ≠ j := fun z => by
      subst z
      rw [List.getElem?_set] at e1
      simp only [if_true] at e1
      split at e1 <;> cases e1
    have w2 : i ≠ l := fun z => by
      subst z
      rw [List.getElem?_set] at e2
      simp only [if_true] at e2
      split at e2 <;> cases e2
    rw [List.getElem?_set_ne w1] at e3
    rw [List.getElem?_set_ne w2] at e4
    exact z.inj j l _ _ a ne e1 e2 e3 e4
end
def clearM (i : Nat) : Out → R Out
  | .next ρ => R.grd (noX (ρ.set i .no) = true) (.ok (.next (ρ.set i .no)))
  | .ret d => .ok (.ret d)
  | _ => .stuck
def mTry (c i : Nat) (mb mh : Rho → R Out) : Rho → R Out := fun ρ => (mb ρ).bind fun o => match o with
  | .exc (.obj n ds) ρ' => R.grd (20 ≤ n ∧ n < 36) (if errIs c n = true then R.grd (noX ρ' = true) ((mh (ρ'.set i (.ex n ds))).bind (clearM i)) else .ok (.exc (.obj n ds) ρ'))
  | .exc _ _ => .stuck
  | o => .ok o
/-- what the text's head has left of an except clause's class -/
structure ClsX (Z : Kx) (c : Nat) (Cc : Value) : Prop where
  is : ∀ n C, 20 ≤ n → n < 36 → Z.mg (clsTab n).1 = some (.ref C) → PySem.W.exmOne Z.K (.ref C) Cc = some (errIs c n)
theorem cs_try {X : Cx} {B : Bx} {x nm : Str} {Cc : Value} {body suite : List Stmt} {b₀ : Stmt} {np pos pos' : Pos} {mb mh : Rho → R Out} (c i : Nat) (hx : ClsX X.kx c Cc) (hc : Names X x Cc) (tk : Takes X B.W) (hN : X.N.Nodup) (hln : X.env.kindOf nm = some .local)
    (hb : ∀ (W : WX) (pn : List (Addr × Obj)) (xe : Value → Shared → Prop), Takes (X.tr pn xe) W → PassesOwn (model X.prog X.w) X.A X.env xe → PSs (X.tr pn xe) body (yS X.kx { B with W := W } mb))
    (hsu : ∀ (a : Addr) (oe : Obj) (C dd : Addr) (pn : List (Addr × Obj)), Zc (.ref C) (some dd) oe → (∃ vs, oe.data = .fields vs) → PSs (X.suite a ((a, oe) :: pn)) (b₀ :: suite) (yS X.kx { B with W := fun _ _ _ _ => False, x := a, hd := some (.ref C, dd) } mh))
    (hs : X.stack = X.env :: X.outer := by rfl) (hf : X.env.frame = some X.env.locals := by rfl) (hi : X.N[i]? = some nm := by rfl) :
    PS X (.Try body [.ExceptHandler (some (.Name x np)) (some nm) (b₀ :: suite) pos'] [] [] pos) (yS X.kx B (mTry c i mb mh)) := by
  let ts : Addr → Value → Option Addr → TS := fun a cls d D σ H => ∃ C dd, cls = .ref C ∧ d = some dd ∧ yS X.kx { B with W := fun _ _ _ _ => False, x := a, hd := some (.ref C, dd) } mh D σ H
  have base := ps_try_as (ts := ts) (Wout := B.W) (pos := pos) (pos' := pos') (np := np) hs hf hN hi hln hc tk hb fun a oe cls d pn hz hv => ⟨fun pins s σ H D I h => by
    obtain ⟨C, dd, rfl, rfl, q⟩ := h
    exact (hsu a oe C dd pn hz hv).run pins s σ H D I q⟩
  refine ps_imp base fun D σ H ⟨F, ρ, ok, q⟩ => ⟨F, ρ, ok.wish _, R.all_imp (fun o z => ?_) (fun _ z => z) (R.all_bind.mp q)⟩
  cases o with
  | next ρ1 => exact fun F' H' σ' s k => z F' H' σ' s k.unwish
  | brk ρ1 => exact fun F' H' σ' s k => z F' H' σ' s k.unwish
  | cont ρ1 => exact fun F' H' σ' s k => z F' H' σ' s k.unwish
  | ret d => exact z
  | exc e ρ1 =>
    cases e with
    | obj n ds =>
      obtain ⟨hn, z⟩ := R.all_grd.mp z
      intro F' H' σ' c0 o0 s k ex
      have k := k.unwish
      obtain ⟨C, gC, rfl, dd, fs, rfl, hdd, ek, r⟩ := ex
      refine ⟨errIs c n, hx.is n C hn.1 hn.2 gC, fun hb1 a ha => ?_, fun hb0 => ?_⟩
      · rw [if_pos hb1] at z
        obtain ⟨hnx, z⟩ := R.all_grd.mp z
        refine ⟨C, dd, rfl, rfl, F', ρ1.set i (.ex n ds), ?_, R.all_imp (fun o w => ?_) (fun _ w => w) (R.all_bind.mp z)⟩
        · exact Ok.hold (B := { B with W := fun _ _ _ _ => False, x := a, hd := some (.ref C, dd) }) (k.base hnx rfl rfl rfl) rfl gC hdd ek r
        · cases o with
          | next ρ2 =>
            obtain ⟨hn2, w⟩ := R.all_grd.mp w
            exact fun F2 H2 σ2 s2 k2 => w F2 H2 (σ2.set i Option.none) (s.trans s2) ((k2.gone i).base hn2 rfl rfl rfl)
          | ret d => exact w
          | brk ρ2 => exact w.elim
          | cont ρ2 => exact w.elim
          | exc e ρ2 => exact w.elim
      · rw [hb0, if_neg Bool.false_ne_true] at z
        exact z F' H' σ' (.ref C) (some dd) s k ⟨C, gC, rfl, dd, fs, rfl, hdd, ek, r⟩
    | _ => exact z.elim
end Y
/-! # Z5 -/
set_option Elab.async false
set_option linter.all false
set_option maxRecDepth 100000
set_option maxHeartbeats 4000000
namespace Y
open PySem PySem.Spec PyProof.Rows L2
/-! ### the error that is held: its field, its kind -/
/-- what the text's head has left of the errors' classes, for reading -/
structure AttrY (Z : Kx) : Prop where
  is : ∀ n C, 20 ≤ n → n < 36 → Z.mg (clsTab n).1 = some (.ref C) → PySem.W.findIn Z.K (.ref C) "__getattribute__" = some (some (.builtin "BaseException.__getattribute__")) ∧ PySem.W.findIn Z.K (.ref C) "__getattr__" = some none ∧
    PySem.W.subIn Z.K (.ref C) (.type "BaseException") = some true ∧ PySem.W.hasDictIn Z.K C = true ∧ ∀ f ∈ (clsTab n).2, PySem.W.findIn Z.K (.ref C) f = some none
def mXFld (i : Nat) (f : Str) : Rho → R D := fun ρ => match ρ[i]? with
  | some (.ex c ds) => R.grd (20 ≤ c ∧ c < 36 ∧ (clsTab c).2 = [f]) (getD ds 0)
  | _ => .stuck
theorem ce_xfld {X : Cx} {B : Bx} {a C dd : Addr} {oe : Obj} {pn : List (Addr × Obj)} {f nm : Str} {p p' : Pos} (i : Nat) (hA : AttrY X.kx) (hx : B.x = a) (hh : B.hd = some (.ref C, dd)) (hz : Zc (.ref C) (some dd) oe) (hv : ∃ vs, oe.data = .fields vs)
    (hb : attributeBase (.Name nm p) f X.env (eval (.Name nm p) X.env) = eval (.Name nm p) X.env := by rfl) (hN : X.N[i]? = some nm := by rfl) (hvv : Vis X.env.scope nm := by first | exact Or.inl rfl | exact Or.inr (Or.inl rfl) | exact Or.inr (Or.inr rfl)) (hd : (nm == ("__debug__" : Str)) = false := by decide)
    (hcd : (nm == ("__classdict__" : Str)) = false := by decide) : PE (X.suite a ((a, oe) :: pn)) (.Attribute (.Name nm p) f p') (yE X.kx B (mXFld i f)) := by
  have he : PE (X.suite a ((a, oe) :: pn)) (.Name nm p) (tVar i) := pe_var hN hvv hd hcd
  refine ⟨fun pins s σ H Q I h => ?_⟩
  obtain ⟨F, ρ, ok, q⟩ := h
  unfold mXFld at q
  split at q
  · rename_i c ds e
    obtain ⟨⟨h20, h36, hf⟩, q⟩ := R.all_grd.mp q
    obtain ⟨C', dd', fs, es, ehd, gC, hdd, ek, r⟩ := ok.sl i _ e
    rw [hh] at ehd
    obtain ⟨rfl, rfl⟩ : C = C' ∧ dd = dd' := by
      have z := Option.some.inj ehd
      have z1 := (Prod.mk.inj z).1
      have z2 := (Prod.mk.inj z).2
      cases z1
      exact ⟨rfl, z2⟩
    rw [hx] at es
    obtain ⟨d0, dr, rfl⟩ : ∃ d0 dr, ds = d0 :: dr := by
      cases ds with
      | nil => exact q.elim
      | cons d0 dr => exact ⟨d0, dr, rfl⟩
    rw [hf] at ek
    obtain ⟨v, rfl⟩ : ∃ v, fs = [(f, v)] := by
      cases fs with
      | nil => simp at ek
      | cons y ys =>
        cases ys with
        | nil =>
          have : y.1 = f := by simpa using ek
          exact ⟨y.2, by rw [← this]⟩
        | cons y2 ys => simp at ek
    unfold RpLX RpL at r
    obtain ⟨v0, vr, ev, r0, _⟩ := r
    have ev2 : v0 = v := by simp at ev; exact ev.1.symm
    subst ev2
    obtain ⟨ga, gg, exC, hdC, no⟩ := hA.is c C h20 h36 gC
    have noN := no f (by rw [hf]; exact List.mem_cons_self)
    refine attr_of hb (thn (he.run pins s σ H (fun x H1 => x = .ref a ∧ H1 = H) I ⟨.ref a, es, rfl, rfl⟩) fun u s1 hh2 => ?_)
    obtain ⟨x, H1, I1, rx, rfl, rfl⟩ := hh2
    obtain rfl : u = Value.ref a := rx
    obtain ⟨ha, _⟩ := I1.pin (a, oe) (List.mem_append_left _ List.mem_cons_self)
    obtain ⟨vs, hdt⟩ := hv
    have ea : H1 dd = some (.xd [(f, v0)]) := ok.fh _ _ hdd
    have hxd : ObjOk X.prog X.w H1 s1.heap dd (.xd [(f, v0)]) := I1.hok dd _ ea
    obtain ⟨mA, hns, hr⟩ := hxd
    obtain ⟨od, ho, hl⟩ := lookIn_ns hns
    have l : List.lookup f [(f, v0)] = some v0 := by simp [List.lookup]
    obtain ⟨u, hu, ru⟩ := RelO.some_of (v := v0) (o := mA f) (by rw [← l]; exact hr f)
    have J : PySem.W.InstAt s1.heap a oe C (some od) := ⟨ha, hz.1, by unfold PySem.W.notCls; rw [hdt], by rw [hz.2]; exact ho⟩
    exact HandSPX.exc_get I1.kIn J ga gg exC (PySem.W.findObj_own hdC noN rfl (by rw [hl, hu])) (handed_of ru) ⟨v0, H1, I1.tok _, ru, q F H1 v0 (Ext.refl ok.fh ok.dk) r0⟩
  · exact q.elim
end Y
/-! # Z7 -/
set_option Elab.async false
set_option linter.all false
set_option maxRecDepth 100000
set_option maxHeartbeats 4000000
namespace Y
open PySem PySem.Spec PyProof.Rows L2
/-- isinstance(e, c), e the error that is held, its dict at dd -/
def rIsE2 (K : PySem.W.Frag) (D a dd : Addr) : List V → Hp → VK → Prop := fun xs H Q => ∃ (c : V) (cv : Value) (b : Bool) (fs : List (Str × V)), xs = [.ref a, c] ∧ (∀ u, RelV c u → u = cv) ∧ PySem.W.kitOne K (.ref D) cv = some b ∧ H dd = some (.xd fs) ∧ Q (.bl b) H
theorem call_isE2 {X : Cx} {a D dd : Addr} {oe : Obj} {pn : List (Addr × Obj)} (C : ExcC X.K D) (hz : Zc (.ref D) (some dd) oe) (hf : ∃ vs, oe.data = .fields vs) : CallR (X.suite a ((a, oe) :: pn)) (.builtin "isinstance") (rIsE2 X.K D a dd) := by
  intro pins s σ H xs us Q I r h
  obtain ⟨c, cv, b, fs, rfl, hcv, e, hdd, q⟩ := h
  cases r with
  | cons rx rr =>
    cases rr with
    | cons rt rr =>
      cases rr
      cases rx
      have ec := hcv _ rt
      subst ec
      obtain ⟨hget, _⟩ := I.pin (a, oe) (List.mem_append.mpr (.inl List.mem_cons_self))
      obtain ⟨vs, hv⟩ := hf
      have hx : ObjOk X.prog X.w H s.heap dd (.xd fs) := I.hok dd _ hdd
      obtain ⟨mA, hns, hr⟩ := hx
      obtain ⟨od, ho, hl⟩ := lookIn_ns hns
      have J : PySem.W.InstAt s.heap a oe D (some od) := ⟨hget, hz.1, by unfold PySem.W.notCls; rw [hv], by rw [hz.2]; exact ho⟩
      have hcl : (PySem.W.clsIn X.K D).isSome = true := by
        obtain ⟨cd, hc, _⟩ := PySem.W.any_some C.hd
        rw [hc]
        rfl
      exact PySem.W.kia_one (PySem.W.kitx_exc hcl C.hg C.hk C.hs C.ha C.hn C.ht C.hm) I.kIn J e (fun z => nomatch z) fun tk => ⟨.bl b, H, I.kept (t' := tk) fun _ _ z => z, rfl, q⟩
/-- what the text's head has left of the errors, for isinstance -/
structure IsY (Z : Kx) (c : Nat) (Cc : Addr) : Prop where
  cls : ∀ n C, 20 ≤ n → n < 36 → Z.mg (clsTab n).1 = some (.ref C) → ExcC Z.K C
  is : ∀ n C, 20 ≤ n → n < 36 → Z.mg (clsTab n).1 = some (.ref C) → PySem.W.kitOne Z.K (.ref C) (.ref Cc) = some (errIs c n)
def mXIs (i c : Nat) : Rho → R D := fun ρ => match ρ[i]? with
  | some (.ex n _) => R.grd (20 ≤ n ∧ n < 36) (.ok (.bl (errIs c n)))
  | _ => .stuck
theorem ce_xis {X : Cx} {B : Bx} {a C dd Cc : Addr} {oe : Obj} {pn : List (Addr × Obj)} {nm x : Str} {p p1 p2 pos : Pos} (i c : Nat) (hA : IsY X.kx c Cc) (gC : X.mg x = some (.ref Cc)) (hm : X.mg "isinstance" = none) (hx : B.x = a) (hh : B.hd = some (.ref C, dd)) (hz : Zc (.ref C) (some dd) oe) (hv : ∃ vs, oe.data = .fields vs)
    (hN : X.N[i]? = some nm := by rfl) (hvv : Vis X.env.scope nm := by first | exact Or.inl rfl | exact Or.inr (Or.inl rfl) | exact Or.inr (Or.inr rfl)) (hd : (nm == ("__debug__" : Str)) = false := by decide) (hcd : (nm == ("__classdict__" : Str)) = false := by decide)
    (hg : Gl X "isinstance" := by rfl) (hgx : Gl X x := by rfl) (hdx : (x == ("__debug__" : Str)) = false := by decide)
    (s1 : starEach [.Name nm p1, .Name x p2] X.env = (false, eval (.Name nm p1) X.env) :: starEach [.Name x p2] X.env := by rfl) (s2 : starEach [.Name x p2] X.env = (false, eval (.Name x p2) X.env) :: starEach [] X.env := by rfl) (hpl : (backTo pos (starEach [.Name x p2] X.env)).any (·.1) = false := by rfl) :
    PE (X.suite a ((a, oe) :: pn)) (.Call (.Name "isinstance" p) [.Name nm p1, .Name x p2] [] pos) (yE X.kx B (mXIs i c)) := by
  have h1 : PE (X.suite a ((a, oe) :: pn)) (.Name nm p1) (tVar i) := pe_var hN hvv hd hcd
  have h2 : PE (X.suite a ((a, oe) :: pn)) (.Name x p2) (tC (.ref Cc)) := pe_glob hgx gC rfl hdx
  refine ⟨fun pins s σ H Q I h => ?_⟩
  obtain ⟨F, ρ, ok, q⟩ := h
  unfold mXIs at q
  split at q
  · rename_i n ds e
    obtain ⟨⟨h20, h36⟩, q⟩ := R.all_grd.mp q
    obtain ⟨C', dd', fs, es, ehd, gC', hdd, ek, r⟩ := ok.sl i _ e
    rw [hh] at ehd
    obtain ⟨rfl, rfl⟩ : C = C' ∧ dd = dd' := by
      have z := Option.some.inj ehd
      have z1 := (Prod.mk.inj z).1
      have z2 := (Prod.mk.inj z).2
      cases z1
      exact ⟨rfl, z2⟩
    rw [hx] at es
    refine (pe_callB (p := p) (call_isE2 (hA.cls n C h20 h36 gC') hz hv) hg hm (by decide +kernel) (pa_cons h1 (pa_cons h2 pa_nil s2) s1) (by decide) (by decide) s1 hpl).run pins s σ H Q I ?_
    exact ⟨.ref a, es, .ref Cc, .ref Cc, errIs c n, fs, rfl, fun u hu => by cases hu; rfl, hA.is n C h20 h36 gC', ok.fh _ _ hdd, q F H (.bl (errIs c n)) (Ext.refl ok.fh ok.dk) (Rp.bl _)⟩
  · exact q.elim
end Y
/-! # Z8 -/
set_option Elab.async false
set_option linter.all false
set_option maxRecDepth 100000
set_option maxHeartbeats 4000000
namespace Y
open PySem PySem.Spec PyProof.Rows L2 PySem.OwnX
/-- an error's class and its __init__, as the head has left them -/
structure HasE (P : Program) (K : PySem.W.Frag) (x : Str) (st : Stmt) (fld : Str) (C : Addr) : Prop where
  a : PySem.W.nsIn K mainGlobals x = some (some (.ref C))
  ex : ∃ O fI fd cc, OC K C O ∧ PySem.W.findIn K (.ref C) "__init__" = some (some (.ref fI)) ∧ PySem.W.typeIn K (.ref fI) = some (.type "function") ∧
    (∃ oc od osl qual kV doc pm an cda ct, K.lookup fI = some ⟨oc, od, .func fd, osl⟩ ∧ fd = PySem.W.fnX "__init__" qual (defArgs st) (defBody st) (defScope st) [("__class__", cc)] .none kV doc pm an (.ref cda) ct ∧ PySem.W.codeIn K (.ref cda) qual = true ∧
      ∃ ccl cdd vs ccs file tf, K.lookup cda = some ⟨ccl, cdd, .fields vs, ccs⟩ ∧ vs[2]? = some (.str file tf) ∧ ((P.main.file : Str) == file) = true) ∧
    (∃ cl cld csl, K.lookup cc = some ⟨cl, cld, .cell (some (.ref C)), csl⟩)
  kC : PySem.W.keepIn K (.ref C) = true
  exC : PySem.W.subIn K (.ref C) (.type "BaseException") = some true
  tyC : PySem.W.typeIn K (.ref C) = some (.type "type")
  no : PySem.W.findIn K (.ref C) fld = some none
  ga : PySem.W.findIn K (.ref C) "__getattribute__" = some (some (.builtin "BaseException.__getattribute__"))
  gg : PySem.W.findIn K (.ref C) "__getattr__" = some none
  hd : PySem.W.hasDictIn K C = true
  ha : PySem.W.findIn K (.ref C) "__class__" = some (some (.builtin "object.__class__"))
  hm : PySem.W.mroIn K C (.type "object") = some true
theorem al_of {K : PySem.W.Frag} {O : Addr} {nm q : Str} {N : Addr} {bs : List Value} {hdct : Bool} {sn : List Str} {sub : List Value} {ab : Bool} {col : Option Bool} {dd : Option Addr} {k0 k1 k2 k3 k5 : Option Value} {newId : String} {name : Str} {l : List Value} {v : Option (Option Value)}
    (c : K.lookup O = some (excClassObj nm q O N bs l hdct sn sub ab col dd k0 k1 k2 k3 k5 newId)) (f : PySem.W.findIn K (.ref O) name = v) : PySem.W.alongIn K name (.ref O :: l) = v := by
  have e : PySem.W.findIn K (.ref O) name = PySem.W.alongIn K name (.ref O :: l) := by
    show (match K.lookup O with | some ⟨_, _, .cls cd, _⟩ => PySem.W.alongIn K name cd.mro | _ => none) = _
    rw [c]
  rw [← e]
  exact f
theorem hasE_mk {P : Program} {K : PySem.W.Frag} {x : Str} {st : Stmt} {fld : Str} {C O fI cc cda : Addr} {nm q : Str} {N : Addr} {bs : List Value} {sn : List Str} {sub : List Value} {ab : Bool} {col : Option Bool} {dd : Option Addr} {k0 k1 k2 k3 k5 : Option Value}
    {oc kV doc pm ct : Value} {od an : Option Addr} {osl : Array (Option Value)} {qual : Str} {ccl : Value} {cdd : Option Addr} {vs : Array Value} {ccs : Array (Option Value)} {file : Str} {tf : Tok} {cl : Value} {cld : Option Addr} {csl : Array (Option Value)}
    (a : PySem.W.nsIn K mainGlobals x = some (some (.ref C)))
    (c : K.lookup C = some (excClassObj nm q C N bs (.ref O :: [.type "Exception", .type "BaseException", .type "object"]) true sn sub ab col dd k0 k1 k2 k3 k5 "Exception.__new__"))
    (sa : PySem.W.findIn K (.ref C) "__setattr__" = some (some (.builtin "object.__setattr__")))
    {nm' q' : Str} {N' : Addr} {bs' : List Value} {hd' : Bool} {sn' : List Str} {sub' : List Value} {ab' : Bool} {col' : Option Bool} {dd' : Option Addr} {j0 j1 j2 j3 j5 : Option Value} {nid : String}
    (co : K.lookup O = some (excClassObj nm' q' O N' bs' [.type "Exception", .type "BaseException", .type "object"] hd' sn' sub' ab' col' dd' j0 j1 j2 j3 j5 nid))
    (fo : PySem.W.findIn K (.ref O) "__init__" = some (some (.builtin "Exception.__init__")))
    (tp : PySem.W.nsIn K cStatics "thirdparty.any" = some none)
    (i : PySem.W.findIn K (.ref C) "__init__" = some (some (.ref fI))) (ti : PySem.W.typeIn K (.ref fI) = some (.type "function"))
    (l : K.lookup fI = some ⟨oc, od, .func (PySem.W.fnX "__init__" qual (defArgs st) (defBody st) (defScope st) [("__class__", cc)] .none kV doc pm an (.ref cda) ct), osl⟩)
    (cd : PySem.W.codeIn K (.ref cda) qual = true) (lc : K.lookup cda = some ⟨ccl, cdd, .fields vs, ccs⟩) (hv : vs[2]? = some (.str file tf)) (hf : ((P.main.file : Str) == file) = true)
    (ce : K.lookup cc = some ⟨cl, cld, .cell (some (.ref C)), csl⟩)
    (kC : PySem.W.keepIn K (.ref C) = true) (exC : PySem.W.subIn K (.ref C) (.type "BaseException") = some true) (tyC : PySem.W.typeIn K (.ref C) = some (.type "type")) (no : PySem.W.findIn K (.ref C) fld = some none)
    (ga : PySem.W.findIn K (.ref C) "__getattribute__" = some (some (.builtin "BaseException.__getattribute__"))) (gg : PySem.W.findIn K (.ref C) "__getattr__" = some none) (hd : PySem.W.hasDictIn K C = true)
    (ha : PySem.W.findIn K (.ref C) "__class__" = some (some (.builtin "object.__class__"))) (hm : PySem.W.mroIn K C (.type "object") = some true) : HasE P K x st fld C :=
  ⟨a, ⟨O, fI, _, cc, ⟨⟨nm, q, N, bs, sn, sub, ab, col, dd, k0, k1, k2, k3, k5, c⟩, sa, al_of co fo, tp⟩, i, ti, ⟨oc, od, osl, qual, kV, doc, pm, an, cda, ct, l, rfl, cd, ccl, cdd, vs, ccs, file, tf, lc, hv, hf⟩, ⟨cl, cld, csl, ce⟩⟩, kC, exC, tyC, no, ga, gg, hd, ha, hm⟩
/-- the text's facts of an __init__ with one field -/
structure TxtE (P : Program) (st : Stmt) (fld : Str) : Prop where
  body : ∃ msg j p, defBody st = [callSuper msg j p, setFld fld p] ∧ (p.a3.endLine == p.a5.line) = true
  hk : (defScope st).kind = .function
  co : (defScope st).isCoroutine = false
  gn : (defScope st).isGenerator = false
  ks : (defScope st).names.lookup ("super" : Str) = some .globalImplicit
  kc : (defScope st).names.lookup ("__class__" : Str) = some .free
  kf : (defScope st).names.lookup ("self" : Str) = some .local
  fl : (defScope st).names.lookup fld = some .local
  nc : ∀ x ∈ (defScope st).names, x.2 ≠ .cell
  ar : ∃ a, ((defArgs st).posonlyargs ++ (defArgs st).args).head? = some a ∧ a.arg = "self"
  top : (P.main.scope.names.lookup ("super" : Str)).isSome = false
  sf : (fld == ("self" : Str)) = false
  db : (fld == ("__debug__" : Str)) = false
  bind : ∀ (qual : Str) (cl : List (Str × Addr)) (kV doc pm cdv ct : Value) (an : Option Addr) (x : Addr) (v : Value), bindArgs (PySem.W.fnX "__init__" qual (defArgs st) (defBody st) (defScope st) cl .none kV doc pm an cdv ct) ⟨[.ref x, v], []⟩ = pure [(("self" : Str), Value.ref x), (fld, v)]
theorem errY_of {P : Program} {K : PySem.W.Frag} {h : Heap} {mg : Str → Option Value} {n : Nat} {x fld : Str} {st : Stmt} {C : Addr} (X : K.In h) (G : h.Ns mainGlobals mg) (H : HasE P K x st fld C) (T : TxtE P st fld) (hx : clsTab n = (x, [fld])) (su : mg "super" = none) : ErrY P ⟨K, mg⟩ n := by
  obtain ⟨O, fI, fd, cc, oC, i, ti, ⟨oc, od, osl, qual, kV, doc, pm, an, cda, ct, l, hfd, cd, ccl, cdd, vs, ccs, file, tf, lc, hv, hf⟩, ce⟩ := H.ex
  refine ⟨⟨C, O, fI, fd, cc, fld, by rw [hx]; exact PySem.W.mg_of X G H.a, oC, ?_, i, ti, H.kC, H.exC, H.tyC, by rw [hx], ?_⟩, su⟩
  · subst hfd
    exact ⟨⟨oc, od, osl, l⟩, ⟨cda, ccl, cdd, vs, ccs, file, tf, rfl, lc, hv, hf⟩, cd, ce, rfl, rfl, rfl, T.hk, T.co, T.gn, T.ks, T.kc, T.kf, T.nc, T.ar, T.top⟩
  · subst hfd
    obtain ⟨msg, j, p, hb, hp⟩ := T.body
    exact ⟨⟨msg, j, p, by show FuncBody.stmts (defBody st) = _; rw [hb], hp⟩, T.fl, T.sf, T.db, H.no, fun x v => T.bind qual _ kV doc pm _ ct an x v⟩
end Y
/-! # Z9 -/
set_option Elab.async false
set_option linter.all false
set_option maxRecDepth 100000
set_option maxHeartbeats 4000000
namespace Y
open PySem PySem.Spec PyProof.Rows L2
/-- a class that except clauses and isinstance name -/
structure ExcN (Z : Kx) (x : Str) (c : Nat) : Prop where
  ex : ∃ Cc, Z.mg x = some (.ref Cc) ∧ ClsX Z c (.ref Cc) ∧ IsY Z c Cc
theorem cs_tryN {X : Cx} {B : Bx} {k : Nat} {x nm : Str} {body suite : List Stmt} {b₀ : Stmt} {np pos pos' : Pos} {mb mh : Rho → R Out} (c i : Nat) (hx : ExcN X.kx x c) (tk : Takes X B.W) (hN : X.N.Nodup) (hr : RG k X.A)
    (hb : ∀ (W : WX) (pn : List (Addr × Obj)) (xe : Value → Shared → Prop), RG k (X.tr pn xe).A → Takes (X.tr pn xe) W → PassesOwn (model X.prog X.w) X.A X.env xe → PSs (X.tr pn xe) body (yS X.kx { B with W := W } mb))
    (hsu : ∀ (a : Addr) (oe : Obj) (C dd : Addr) (pn : List (Addr × Obj)), Zc (.ref C) (some dd) oe → (∃ vs, oe.data = .fields vs) → PSs (X.suite a ((a, oe) :: pn)) (b₀ :: suite) (yS X.kx { B with W := fun _ _ _ _ => False, x := a, hd := some (.ref C, dd) } mh))
    (hg : Gl X x := by rfl) (hdb : (x == ("__debug__" : Str)) = false := by decide) (hln : X.env.kindOf nm = some .local := by rfl)
    (hs : X.stack = X.env :: X.outer := by rfl) (hf : X.env.frame = some X.env.locals := by rfl) (hi : X.N[i]? = some nm := by rfl) :
    PS X (.Try body [.ExceptHandler (some (.Name x np)) (some nm) (b₀ :: suite) pos'] [] [] pos) (yS X.kx B (mTry c i mb mh)) := by
  obtain ⟨Cc, gC, hcx, _⟩ := hx.ex
  exact cs_try c i hcx ⟨hg, hdb, .inl gC⟩ tk hN hln (fun W pn xe => hb W pn xe hr) hsu hs hf hi
theorem ce_xisN {X : Cx} {B : Bx} {a C dd : Addr} {oe : Obj} {pn : List (Addr × Obj)} {nm x : Str} {p p1 p2 pos : Pos} (i c : Nat) (hA : ExcN X.kx x c) (hm : X.mg "isinstance" = none) (hx : B.x = a) (hh : B.hd = some (.ref C, dd)) (hz : Zc (.ref C) (some dd) oe) (hv : ∃ vs, oe.data = .fields vs)
    (hN : X.N[i]? = some nm := by rfl) (hvv : Vis X.env.scope nm := by first | exact Or.inl rfl | exact Or.inr (Or.inl rfl) | exact Or.inr (Or.inr rfl)) (hd : (nm == ("__debug__" : Str)) = false := by decide) (hcd : (nm == ("__classdict__" : Str)) = false := by decide)
    (hg : Gl X "isinstance" := by rfl) (hgx : Gl X x := by rfl) (hdx : (x == ("__debug__" : Str)) = false := by decide)
    (s1 : starEach [.Name nm p1, .Name x p2] X.env = (false, eval (.Name nm p1) X.env) :: starEach [.Name x p2] X.env := by rfl) (s2 : starEach [.Name x p2] X.env = (false, eval (.Name x p2) X.env) :: starEach [] X.env := by rfl) (hpl : (backTo pos (starEach [.Name x p2] X.env)).any (·.1) = false := by rfl) :
    PE (X.suite a ((a, oe) :: pn)) (.Call (.Name "isinstance" p) [.Name nm p1, .Name x p2] [] pos) (yE X.kx B (mXIs i c)) := by
  obtain ⟨Cc, gC, _, hi⟩ := hA.ex
  exact ce_xis i c hi gC hm hx hh hz hv hN hvv hd hcd hg hgx hdx s1 s2 hpl
end Y
/-! # Z10 -/
set_option Elab.async false
set_option linter.all false
set_option maxRecDepth 100000
set_option maxHeartbeats 4000000
namespace Y
open PySem PySem.Spec PyProof.Rows L2
/-! ### starred parts of a display -/
def mStar (s : Rho → R D) (r : Rho → R (List D)) : Rho → R (List D) := fun ρ => (s ρ).bind fun d => match d with
  | .tup xs => (r ρ).bind fun ys => .ok (xs ++ ys)
  | .lst xs => (r ρ).bind fun ys => .ok (xs ++ ys)
  | _ => .stuck
theorem ca_star {X : Cx} {B : Bx} {a : Expr} {p : Pos} {es : List Expr} {ma : Rho → R D} {mr : Rho → R (List D)} (ha : PE X a (yB X.kx B ma)) (hr : PA X es (yA X.kx B mr)) (hs : starEach (.Starred a p :: es) X.env = (true, eval a X.env) :: starEach es X.env := by rfl) :
    PA X (.Starred a p :: es) (yA X.kx B (mStar ma mr)) :=
  pa_imp (StX.pa_star ha hr hs) fun σ H Q ⟨F, ρ, ok, q⟩ => by
    refine seqB ok q fun x F1 H1 v1 e1 r1 q1 => ?_
    have k := ok.step e1
    split at q1
    · obtain ⟨p, ws, rfl, h1, l1⟩ := r1.tup k.fh
      refine ⟨p, ws, rfl, .inl (.inl (.inl h1)), ?_⟩
      refine seqA k q1 fun ys F2 H2 vs e2 r2 q2 => ?_
      exact q2 F2 H2 (ws ++ vs) (e1.trans e2) (RpL.append (RpL.mono e2.ff _ _ l1) r2)
    · obtain ⟨p, ws, rfl, h1, l1⟩ := r1.lst k.fh
      refine ⟨p, ws, rfl, .inr (.inl (.inl h1)), ?_⟩
      refine seqA k q1 fun ys F2 H2 vs e2 r2 q2 => ?_
      exact q2 F2 H2 (ws ++ vs) (e1.trans e2) (RpL.append (RpL.mono e2.ff _ _ l1) r2)
    · exact q1.elim
/-! ### tuple(range(n)) -/
def mTupR (m : Rho → R D) : Rho → R D := fun ρ => (m ρ).bind fun d => match d with
  | .int j => R.grd (-(2 ^ 62) ≤ j ∧ j ≤ 16777216) (.ok (.tup (rangeD 0 j.toNat 1)))
  | _ => .stuck
theorem rpl_rgV {Z : Kx} {B : Bx} {F : Hp} (j : Int) : RpLX Z B F (rangeD 0 j.toNat 1) (rgV 0 j) := by
  unfold rangeD rgV
  rw [Int.sub_zero]
  generalize List.range j.toNat = l
  induction l with
  | nil => exact RpL.nil
  | cons x r ih =>
    rw [List.map_cons, List.map_cons]
    refine RpL.cons ?_ ih
    rw [Int.mul_one]
    exact Rp.int _
theorem ce_tupR {X : Cx} {B : Bx} {e : Expr} {p p' pos pos' : Pos} {m : Rho → R D} (ha : PE X e (yE X.kx B m)) (hc : X.calm = true) (ht : X.mg "tuple" = none) (hr : X.mg "range" = none) (hg : Gl X "tuple" := by rfl) (hg2 : Gl X "range" := by rfl)
    (na : starEach [.Call (.Name "range" p) [e] [] pos] X.env = (false, eval (.Call (.Name "range" p) [e] [] pos) X.env) :: starEach [] X.env := by rfl) (na2 : starEach [e] X.env = (false, eval e X.env) :: starEach [] X.env := by rfl) :
    PE X (.Call (.Name "tuple" p') [.Call (.Name "range" p) [e] [] pos] [] pos') (yE X.kx B (mTupR m)) := pe_imp (pe_tupRg hc hg ht (prg_1 hg2 hr ha na2) na) fun σ H Q ⟨F, ρ, ok, q⟩ => by
  refine seqE ok q fun d F' H' v e1 r1 q1 => ?_
  have k := ok.step e1
  split at q1
  · rename_i j
    obtain ⟨⟨h1, h2⟩, q1⟩ := R.all_grd.mp q1
    unfold RpX Rp at r1
    subst r1
    refine ⟨j, rfl, ⟨by omega, by omega, by omega, by omega, by omega⟩, fun p hp => ?_⟩
    exact q1 _ _ _ (e1.trans (.lay k.fh k.dk hp _)) (Rp.tup upd_same (RpL.mono (same_upd (same_none k.fh hp)) _ _ (rpl_rgV j)))
  · exact q1.elim
/-! ### the errors' facts, put together -/
/-- an error's class, for reading and asking -/
structure HasA (K : PySem.W.Frag) (n : Nat) (C : Addr) : Prop where
  a : PySem.W.nsIn K mainGlobals (clsTab n).1 = some (some (.ref C))
  exC : PySem.W.subIn K (.ref C) (.type "BaseException") = some true
  ga : PySem.W.findIn K (.ref C) "__getattribute__" = some (some (.builtin "BaseException.__getattribute__"))
  gg : PySem.W.findIn K (.ref C) "__getattr__" = some none
  hd : PySem.W.hasDictIn K C = true
  ha : PySem.W.findIn K (.ref C) "__class__" = some (some (.builtin "object.__class__"))
  hm : PySem.W.mroIn K C (.type "object") = some true
  no : ∀ f ∈ (clsTab n).2, PySem.W.findIn K (.ref C) f = some none
theorem hasA_mk {K : PySem.W.Frag} {n : Nat} {C : Addr} (a : PySem.W.nsIn K mainGlobals (clsTab n).1 = some (some (.ref C))) (exC : PySem.W.subIn K (.ref C) (.type "BaseException") = some true)
    (ga : PySem.W.findIn K (.ref C) "__getattribute__" = some (some (.builtin "BaseException.__getattribute__"))) (gg : PySem.W.findIn K (.ref C) "__getattr__" = some none) (hd : PySem.W.hasDictIn K C = true)
    (ha : PySem.W.findIn K (.ref C) "__class__" = some (some (.builtin "object.__class__"))) (hm : PySem.W.mroIn K C (.type "object") = some true) (no : PySem.W.findIn K (.ref C) ((clsTab n).2.headD "") = some none) (h1 : (clsTab n).2.length = 1 := by rfl) : HasA K n C :=
  ⟨a, exC, ga, gg, hd, ha, hm, fun f hf => by
    match e : (clsTab n).2, h1 with
    | [g], _ =>
      rw [e] at hf no
      have : f = g := by simpa using hf
      rw [this]; exact no⟩
theorem HasE.toA {P : Program} {K : PySem.W.Frag} {x fld : Str} {st : Stmt} {C : Addr} {n : Nat} (H : HasE P K x st fld C) (hx : clsTab n = (x, [fld])) : HasA K n C :=
  ⟨by rw [hx]; exact H.a, H.exC, H.ga, H.gg, H.hd, H.ha, H.hm, fun f hf => by
    rw [hx] at hf
    have : f = fld := by simpa using hf
    rw [this]; exact H.no⟩
theorem all16 {p : Nat → Prop} (h20 : p 20) (h21 : p 21) (h22 : p 22) (h23 : p 23) (h24 : p 24) (h25 : p 25) (h26 : p 26) (h27 : p 27) (h28 : p 28) (h29 : p 29) (h30 : p 30) (h31 : p 31) (h32 : p 32) (h33 : p 33) (h34 : p 34) (h35 : p 35) : ∀ n, 20 ≤ n → n < 36 → p n := fun n a b => by
  have h : n = 20 ∨ n = 21 ∨ n = 22 ∨ n = 23 ∨ n = 24 ∨ n = 25 ∨ n = 26 ∨ n = 27 ∨ n = 28 ∨ n = 29 ∨ n = 30 ∨ n = 31 ∨ n = 32 ∨ n = 33 ∨ n = 34 ∨ n = 35 := by omega
  rcases h with h | h | h | h | h | h | h | h | h | h | h | h | h | h | h | h <;> subst h <;> assumption
theorem mg_ns {K : PySem.W.Frag} {h : Heap} {mg : Str → Option Value} (X : K.In h) (G : h.Ns mainGlobals mg) {x : Str} {C C' : Addr} (a : PySem.W.nsIn K mainGlobals x = some (some (.ref C))) (g : mg x = some (.ref C')) : C' = C := by
  have e := PySem.W.mg_of X G a
  rw [g] at e
  cases e
  rfl
theorem attrY_mk {K : PySem.W.Frag} {h : Heap} {mg : Str → Option Value} (X : K.In h) (G : h.Ns mainGlobals mg) (hh : ∀ n, 20 ≤ n → n < 36 → PySem.W.nsIn K mainGlobals (clsTab n).1 = some none ∨ ∃ C, HasA K n C) : AttrY ⟨K, mg⟩ := ⟨fun n C a b g => by
  rcases hh n a b with q | ⟨C', q⟩
  · have e := PySem.W.mg_none_of X G q
    have g' : mg (clsTab n).1 = some (.ref C) := g
    rw [e] at g'
    cases g'
  · have e := mg_ns X G q.a g
    subst e
    exact ⟨q.ga, q.gg, q.exC, q.hd, q.no⟩⟩
theorem excN_mk {K : PySem.W.Frag} {h : Heap} {mg : Str → Option Value} {x : Str} {c : Nat} {Cc : Addr} (X : K.In h) (G : h.Ns mainGlobals mg)
    (hn : PySem.W.specialIn K (.builtin "object.__class__") "__get__" = some (some (.builtin "getset_descriptor.__get__"))) (ht : PySem.W.takesIn K (.builtin "object.__class__") = some true)
    (ac : PySem.W.nsIn K mainGlobals x = some (some (.ref Cc)))
    (hh : ∀ n, 20 ≤ n → n < 36 → PySem.W.nsIn K mainGlobals (clsTab n).1 = some none ∨ ∃ C, HasA K n C ∧ PySem.W.exmOne K (.ref C) (.ref Cc) = some (errIs c n) ∧ PySem.W.kitOne K (.ref C) (.ref Cc) = some (errIs c n)) : ExcN ⟨K, mg⟩ x c := by
  have hh' : ∀ n C, 20 ≤ n → n < 36 → mg (clsTab n).1 = some (.ref C) → HasA K n C ∧ PySem.W.exmOne K (.ref C) (.ref Cc) = some (errIs c n) ∧ PySem.W.kitOne K (.ref C) (.ref Cc) = some (errIs c n) := fun n C a b g => by
    rcases hh n a b with q | ⟨C', q, r⟩
    · have e := PySem.W.mg_none_of X G q
      rw [e] at g
      cases g
    · have e := mg_ns X G q.a g
      subst e
      exact ⟨q, r⟩
  exact ⟨Cc, PySem.W.mg_of X G ac, ⟨fun n C a b g => (hh' n C a b g).2.1⟩, ⟨fun n C a b g => ⟨(hh' n C a b g).1.ga, (hh' n C a b g).1.gg, (hh' n C a b g).1.exC, (hh' n C a b g).1.hd, (hh' n C a b g).1.ha, hn, ht, (hh' n C a b g).1.hm⟩, fun n C a b g => (hh' n C a b g).2.2⟩⟩
end Y
/-! # Z11 -/
set_option Elab.async false
set_option linter.all false
set_option maxRecDepth 100000
set_option maxHeartbeats 4000000
namespace Y
open PySem PySem.Spec PyProof.Rows L2
/-! ### a tuple so many times: none, once -/
theorem tuple_mul0 (l : Addr) (items : Array Value) (n : Nat) (dd : Option Addr) (sl : Array (Option Value)) (x : Int) (u : Tok) (c0 : (decide (x < -(2 ^ 63)) || decide (x ≥ 2 ^ 63)) = false) (c1 : (items.isEmpty || x == 1) = false) (c2 : (decide (x ≤ 0) || items.isEmpty) = true) :
    Meets (Builtin.«tuple.__mul__» ⟨[.ref l, .int x u], []⟩) (fun _ R s => s.heap.get? l = some { cls := .type "tuple", dict := dd, data := .seq items n, slots := sl } ∧
      R (.ok (.ret (Value.ref s.heap.objs.size))) { s with heap := s.heap.push { cls := Value.type "tuple", data := Data.seq #[] }, toks := s.toks }) :=
  .of_wp fun prog w A R s h => by
    obtain ⟨hp, g, d, tk, os⟩ := s
    obtain ⟨hl, h⟩ := h
    have f1 := AutoSeq1.idx_int
    wp_walk using wpAny_loadPart' hl
    repeat (first
      | (refine wpAny_ite_false (decide_eq_false (by rw [c0]; exact Bool.false_ne_true)) ?_; wp_walk using wpAny_loadPart' hl)
      | (refine wpAny_ite_false (decide_eq_false (by rw [c1]; exact Bool.false_ne_true)) ?_; wp_walk using wpAny_loadPart' hl)
      | (refine wpAny_ite_true (decide_eq_true c2) ?_; wp_walk using wpAny_loadPart' hl))
    exact ⟨_, rfl, h⟩
theorem tuple_mul1 (l : Addr) (items : Array Value) (n : Nat) (dd : Option Addr) (sl : Array (Option Value)) (x : Int) (u : Tok) (c0 : (decide (x < -(2 ^ 63)) || decide (x ≥ 2 ^ 63)) = false) (c1 : (items.isEmpty || x == 1) = true) :
    Meets (Builtin.«tuple.__mul__» ⟨[.ref l, .int x u], []⟩) (fun _ R s => s.heap.get? l = some { cls := .type "tuple", dict := dd, data := .seq items n, slots := sl } ∧
      R (.ok (.ret (Value.ref l))) s) :=
  .of_wp fun prog w A R s h => by
    obtain ⟨hp, g, d, tk, os⟩ := s
    obtain ⟨hl, h⟩ := h
    have f1 := AutoSeq1.idx_int
    wp_walk using wpAny_loadPart' hl
    repeat (first
      | (refine wpAny_ite_false (decide_eq_false (by rw [c0]; exact Bool.false_ne_true)) ?_; wp_walk using wpAny_loadPart' hl)
      | (refine wpAny_ite_true (decide_eq_true c1) ?_; wp_walk using wpAny_loadPart' hl))
    exact ⟨_, rfl, h⟩
def rRepT0 (K : PySem.W.Frag) : R2 := fun x y H Q => ∃ l k xs, x = .ref l ∧ y = .int k ∧ SqT K H l xs ∧ xs ≠ [] ∧ -1000 ≤ k ∧ k ≤ 0 ∧ ∀ p, H p = none → Q (.ref p) (upd H p (.tup []))
def rRepT1 (K : PySem.W.Frag) : R2 := fun x y H Q => ∃ l xs, x = .ref l ∧ y = .int 1 ∧ SqT K H l xs ∧ Q (.ref l) H
section
variable {X : Cx}
theorem op_repT0 : OpR X (binaryOp .Mult) (rRepT0 X.K) := by
  intro pins s σ H x y v u Q I rx ry h
  obtain ⟨l, k, xs, rfl, rfl, hT, hne, h1, h2, q⟩ := h
  cases rx
  obtain ⟨t, rfl⟩ := ry
  obtain ⟨its, r, ⟨⟨cls, dd, data, sl⟩, ho, hc, n, hd⟩, hs⟩ := I.tuple hT
  simp only at hc hd
  subst hc hd
  have hle : its.length = xs.length := r.length.symm
  have hn : its ≠ [] := fun e => hne (by
    rw [e] at hle
    exact List.eq_nil_of_length_eq_zero hle.symm)
  have hi : its.toArray.isEmpty = false := by
    cases its with
    | nil => exact absurd rfl hn
    | cons a b => rfl
  have c0 : (decide (k < -(2 ^ 63)) || decide (k ≥ 2 ^ 63)) = false := by
    rw [decide_eq_false (by omega), decide_eq_false (by omega)] <;> rfl
  have c1 : (its.toArray.isEmpty || k == 1) = false := by
    rw [hi, Bool.false_or]
    exact beq_eq_false_iff_ne.mpr (by omega)
  have c2 : (decide (k ≤ 0) || its.toArray.isEmpty) = true := by
    rw [decide_eq_true h2]
    rfl
  refine wpAny_binaryOp_repeat_ref (T := "tuple") (U := "int") (by decide) ⟨_, ho, rfl⟩ (fun s' => typeIs_int s' k t) noFill_tuple_mul F.fills_int_mul F.slot_int_rmul repeat_tuple F.slot_int_index.lookup
    (call_meets F.slot_int_rmul (typeIs_int s k t) F.entry_int_rmul (F.args_int_rmul_2 _ _) (int_rmul_tuple k t l its.toArray n dd sl)
      ⟨ho, rfl, ⟨_, ho, rfl⟩, call_meets F.slot_tuple_mul ⟨_, ho, rfl⟩ F.entry_tuple_mul (F.args_tuple_mul_2 _ _) (tuple_mul0 l its.toArray n dd sl k t c0 c1 c2) ⟨ho, ?_⟩⟩)
  refine ⟨.ref s.heap.objs.size, _, I.laid (t' := s.toks) (o := .tup []) (fun b ob q => Heap.get?_push_of_some _ q) (Nat.le_refl _) ?_, rfl, q _ (I.hok.fresh (Nat.le_refl _))⟩
  exact ⟨Nat.zero_le _, [], .nil, IsTup.new _ _⟩
theorem op_repT1 : OpR X (binaryOp .Mult) (rRepT1 X.K) := by
  intro pins s σ H x y v u Q I rx ry h
  obtain ⟨l, xs, rfl, rfl, hT, q⟩ := h
  cases rx
  obtain ⟨t, rfl⟩ := ry
  obtain ⟨its, r, ⟨⟨cls, dd, data, sl⟩, ho, hc, n, hd⟩, hs⟩ := I.tuple hT
  simp only at hc hd
  subst hc hd
  have c0 : (decide ((1 : Int) < -(2 ^ 63)) || decide ((1 : Int) ≥ 2 ^ 63)) = false := by decide
  have c1 : (its.toArray.isEmpty || (1 : Int) == 1) = true := by
    rw [show ((1 : Int) == 1) = true from rfl, Bool.or_true]
  refine wpAny_binaryOp_repeat_ref (T := "tuple") (U := "int") (by decide) ⟨_, ho, rfl⟩ (fun s' => typeIs_int s' 1 t) noFill_tuple_mul F.fills_int_mul F.slot_int_rmul repeat_tuple F.slot_int_index.lookup
    (call_meets F.slot_int_rmul (typeIs_int s 1 t) F.entry_int_rmul (F.args_int_rmul_2 _ _) (int_rmul_tuple 1 t l its.toArray n dd sl)
      ⟨ho, rfl, ⟨_, ho, rfl⟩, call_meets F.slot_tuple_mul ⟨_, ho, rfl⟩ F.entry_tuple_mul (F.args_tuple_mul_2 _ _) (tuple_mul1 l its.toArray n dd sl 1 t c0 c1) ⟨ho, ?_⟩⟩)
  exact ⟨.ref l, H, I, rfl, q⟩
def dMulT : D → D → R D
  | .tup a, .int k => R.grd (a ≠ [] ∧ -1000 ≤ k ∧ k ≤ 1000 ∧ a.length ≤ 1000) (.ok (.tup (List.replicate k.toNat a).flatten))
  | _, _ => .stuck
variable {B : Bx} {a b : Expr} {pos : Pos} {ma mb : Rho → R D}
theorem opd_mulT : OpD X.kx B (fun x y H Q => rRepT X.K x y H Q ∨ rRepT0 X.K x y H Q ∨ rRepT1 X.K x y H Q) dMulT := fun x y v1 v2 F H Q E s k r1 r2 q => by
  unfold dMulT at q
  split at q
  · rename_i ds j
    obtain ⟨⟨ne, h1, h2, h3⟩, q⟩ := R.all_grd.mp q
    have r0 := r1
    obtain ⟨p1, vs1, rfl, hv, l1⟩ := r1.tup s
    cases r2.int
    have nv : vs1 ≠ [] := fun z => ne (by
      have := RpL.length l1
      rw [z] at this
      exact List.eq_nil_of_length_eq_zero this.symm)
    by_cases c1 : j = 1
    · subst c1
      refine .inr (.inr ⟨p1, vs1, rfl, rfl, .inl (.inl hv), ?_⟩)
      have e : (List.replicate (1 : Int).toNat ds).flatten = ds := by simp
      rw [e] at q
      rcases r0 with r0 | ⟨_, _, _, w, _⟩
      · exact q F H _ (.refl s k) r0
      · cases w
    · by_cases c0 : j ≤ 0
      · refine .inr (.inl ⟨p1, j, vs1, rfl, rfl, .inl (.inl hv), nv, h1, c0, fun p hp => ?_⟩)
        have e : (List.replicate j.toNat ds).flatten = [] := by
          rw [show j.toNat = 0 by omega]; rfl
        rw [e] at q
        exact q _ _ _ (.lay s k hp _) (Rp.tup upd_same RpL.nil)
      · refine .inl ⟨p1, j, vs1, rfl, rfl, .inl (.inl hv), nv, by omega, h2, by rw [RpL.length l1]; exact h3, fun p hp => ?_⟩
        exact q _ _ _ (.lay s k hp _) (Rp.tup upd_same (RpL.mono (same_upd (same_none s hp)) _ _ (RpL.rep l1 _)))
  · exact q.elim
theorem ce_mulT (ha : PE X a (yB X.kx B ma)) (hb : PE X b (yB X.kx B mb)) : PE X (.BinOp a .Mult b pos) (yE X.kx B (mBin dMulT ma mb)) := ce_op (opR_or op_repT (opR_or op_repT0 op_repT1)) opd_mulT ha hb
end
end Y
/-! # Z12 -/
set_option Elab.async false
set_option linter.all false
set_option maxRecDepth 100000
set_option maxHeartbeats 4000000
namespace Y
open PySem PySem.Spec PyProof.Rows L2
/-- what except clauses and isinstance say of a class, by the class's own facts -/
theorem exkit {K : PySem.W.Frag} {Cn Cc : Addr} {b : Bool} (xe : PySem.W.subIn K (.ref Cc) (.type "BaseException") = some true) (xd : PySem.W.hasDictIn K Cc = true) (xt : PySem.W.typeIn K (.ref Cc) = some (.type "type")) (xs : PySem.W.subIn K (.ref Cc) (.ref Cc) = some true)
    (sb : PySem.W.subIn K (.ref Cn) (.ref Cc) = some b) : PySem.W.exmOne K (.ref Cn) (.ref Cc) = some b ∧ PySem.W.kitOne K (.ref Cn) (.ref Cc) = some b := by
  refine ⟨PySem.W.exm_ref xe xd xt sb, ?_⟩
  by_cases h : Cn = Cc
  · subst h
    rw [xs] at sb
    cases sb
    show (if ((Value.ref Cn) == (Value.ref Cn)) = true then some true else _) = _
    rw [if_pos (by simp)]
  · obtain ⟨cd, hc, _⟩ := PySem.W.any_some xd
    have e2 : ((PySem.W.clsIn K Cc).isSome && PySem.W.typeIn K (.ref Cc) == some (.type "type")) = true := by rw [hc, xt] <;> rfl
    have ne : ((Value.ref Cn) == (Value.ref Cc)) = false := by
      refine beq_eq_false_iff_ne.mpr fun z => h ?_
      cases z
      rfl
    show (if ((Value.ref Cn) == (Value.ref Cc)) = true then some true else (if ((PySem.W.clsIn K Cc).isSome && PySem.W.typeIn K (.ref Cc) == some (.type "type")) = true then PySem.W.subIn K (.ref Cn) (.ref Cc) else none)) = some b
    rw [ne, if_neg Bool.false_ne_true, if_pos e2]
    exact sb
end Y
/-! # Z13 -/
set_option Elab.async false
set_option linter.all false
set_option maxRecDepth 100000
set_option maxHeartbeats 4000000
namespace Y
open PySem PySem.Spec PyProof.Rows L2
/-! ### dicts of one's own: keys are ints or texts -/
def keyD : D → Option Key
  | .int i => some (.inl i)
  | .str s => some (.inr s)
  | _ => none
def getK (kvs : List (Key × D)) (k : Key) : Option D := (kvs.find? fun kv => decide (kv.1 = k)).map (·.2)
def putD (kvs : List (Key × D)) (k : Key) (v : D) : List (Key × D) := if (kvs.any fun kv => decide (kv.1 = k)) = true then kvs.map (fun kv => if kv.1 = k then (kv.1, v) else kv) else kvs ++ [(k, v)]
def mergeD (kvs more : List (Key × D)) : List (Key × D) := more.foldl (fun acc kv => putD acc kv.1 kv.2) kvs
section
variable {Z : Kx} {B : Bx} {F F' : Hp}
def RpK (Z : Kx) (B : Bx) (F : Hp) (kvs : List (Key × D)) (vs : List (Key × V)) : Prop := vs.map (·.1) = kvs.map (·.1) ∧ RpLX Z B F (kvs.map (·.2)) (vs.map (·.2))
theorem RpK.nil : RpK Z B F [] [] := ⟨rfl, RpL.nil⟩
theorem RpK.cons {k : Key} {d : D} {v : V} {kvs : List (Key × D)} {vs : List (Key × V)} (r : RpX Z B F d v) (h : RpK Z B F kvs vs) : RpK Z B F ((k, d) :: kvs) ((k, v) :: vs) :=
  ⟨by simp only [List.map_cons, h.1], by simp only [List.map_cons]; exact RpL.cons r h.2⟩
theorem RpK.uncons {p : Key × D} {kvs : List (Key × D)} {vs : List (Key × V)} (h : RpK Z B F (p :: kvs) vs) : ∃ v r, vs = (p.1, v) :: r ∧ RpX Z B F p.2 v ∧ RpK Z B F kvs r := by
  obtain ⟨h1, h2⟩ := h
  cases vs with
  | nil => cases h1
  | cons q r =>
    simp only [List.map_cons, List.cons.injEq] at h1
    simp only [List.map_cons] at h2
    unfold RpLX RpL at h2
    obtain ⟨v, r', e, q1, q2⟩ := h2
    simp only [List.cons.injEq] at e
    refine ⟨q.2, r, by rw [← h1.1], by rw [e.1]; exact q1, h1.2, by rw [e.2]; exact q2⟩
theorem RpK.unnil {vs : List (Key × V)} (h : RpK Z B F [] vs) : vs = [] := by
  have := h.1
  simp at this
  exact this
theorem RpK.mono (s : Same F F') {kvs : List (Key × D)} {vs : List (Key × V)} (h : RpK Z B F kvs vs) : RpK Z B F' kvs vs := ⟨h.1, RpL.mono s _ _ h.2⟩
theorem RpK.app {k : Key} {d : D} {v : V} (r : RpX Z B F d v) : ∀ {kvs : List (Key × D)} {vs : List (Key × V)}, RpK Z B F kvs vs → RpK Z B F (kvs ++ [(k, d)]) (vs ++ [(k, v)])
  | [], vs, h => by
    rw [h.unnil]
    exact RpK.cons r RpK.nil
  | p :: kvs, vs, h => by
    obtain ⟨u, w, rfl, q1, q2⟩ := h.uncons
    exact RpK.cons q1 (RpK.app r q2)
theorem RpK.get (k : Key) : ∀ {kvs : List (Key × D)} {vs : List (Key × V)}, RpK Z B F kvs vs → (valV vs k = none ∧ getK kvs k = none) ∨ ∃ d v, valV vs k = some v ∧ getK kvs k = some d ∧ RpX Z B F d v
  | [], vs, h => by
    rw [h.unnil]
    exact .inl ⟨rfl, rfl⟩
  | p :: kvs, vs, h => by
    obtain ⟨u, w, rfl, q1, q2⟩ := h.uncons
    by_cases e : p.1 = k
    · exact .inr ⟨p.2, u, valV_pos e, by simp [getK, List.find?_cons, e], q1⟩
    · have ih := RpK.get k q2
      have e1 : valV ((p.1, u) :: w) k = valV w k := valV_neg e
      have e2 : getK (p :: kvs) k = getK kvs k := by simp [getK, List.find?_cons, e]
      rw [e1, e2]
      exact ih
theorem RpK.any {k : Key} {kvs : List (Key × D)} {vs : List (Key × V)} (h : RpK Z B F kvs vs) : (vs.any fun kv => decide (kv.1 = k)) = (kvs.any fun kv => decide (kv.1 = k)) := by
  have e1 : (vs.any fun kv => decide (kv.1 = k)) = ((vs.map (·.1)).any fun x => decide (x = k)) := by rw [List.any_map]; rfl
  have e2 : (kvs.any fun kv => decide (kv.1 = k)) = ((kvs.map (·.1)).any fun x => decide (x = k)) := by rw [List.any_map]; rfl
  rw [e1, e2, h.1]
theorem RpK.chg {k : Key} {d : D} {v : V} (r : RpX Z B F d v) : ∀ {kvs : List (Key × D)} {vs : List (Key × V)}, RpK Z B F kvs vs → RpK Z B F (kvs.map (fun kv => if kv.1 = k then (kv.1, d) else kv)) (vs.map (fun kv => if kv.1 = k then (kv.1, v) else kv))
  | [], vs, h => by
    rw [h.unnil]
    exact RpK.nil
  | p :: kvs, vs, h => by
    obtain ⟨u, w, rfl, q1, q2⟩ := h.uncons
    have ih := RpK.chg (k := k) r q2
    simp only [List.map_cons]
    by_cases e : p.1 = k
    · rw [if_pos e, if_pos e]
      exact RpK.cons r ih
    · rw [if_neg e, if_neg e]
      exact RpK.cons q1 ih
theorem RpK.put {k : Key} {d : D} {v : V} {kvs : List (Key × D)} {vs : List (Key × V)} (r : RpX Z B F d v) (h : RpK Z B F kvs vs) : RpK Z B F (putD kvs k d) (putK vs k v) := by
  unfold putD putK
  rw [h.any]
  by_cases c : (kvs.any fun kv => decide (kv.1 = k)) = true
  · rw [if_pos c, if_pos c]
    exact RpK.chg r h
  · rw [if_neg c, if_neg c]
    exact RpK.app r h
theorem RpK.len {kvs : List (Key × D)} {vs : List (Key × V)} (h : RpK Z B F kvs vs) : vs.length = kvs.length := by
  have := congrArg List.length h.1
  simpa using this
theorem RpK.merge : ∀ {more : List (Key × D)} {mv : List (Key × V)} {kvs : List (Key × D)} {vs : List (Key × V)}, RpK Z B F more mv → RpK Z B F kvs vs → RpK Z B F (mergeD kvs more) (mergeK vs mv)
  | [], mv, kvs, vs, h, g => by
    rw [h.unnil]
    exact g
  | p :: more, mv, kvs, vs, h, g => by
    obtain ⟨u, w, rfl, q1, q2⟩ := h.uncons
    exact (RpK.merge (more := more) (mv := w) q2 (g.put q1) : RpK Z B F (mergeD (putD kvs p.1 p.2) more) (mergeK (putK vs p.1 u) w))
/-- no dict of one's own in a frame -/
def noDc : List Sl → Bool
  | [] => true
  | .dc _ :: _ => false
  | _ :: r => noDc r
theorem noDc_at : ∀ {ρ : List Sl} {j : Nat} {es : List (Key × D)}, noDc ρ = true → ρ[j]? = some (.dc es) → False
  | [], j, es, _, h => by simp at h
  | s :: ρ, 0, es, n, h => by
    simp at h
    subst h
    cases n
  | s :: ρ, j + 1, es, n, h => by
    simp at h
    refine noDc_at (ρ := ρ) ?_ h
    cases s with
    | dc kvs => cases n
    | me c ds => exact n
    | ex c ds => exact n
    | no => exact n
    | sh d => exact n
    | ow ds => exact n
variable {H H' : Hp} {σ : L2.St} {ρ : Rho}
/-- a new dict comes into a slot -/
theorem Ok.dict (k : Ok Z B F H σ ρ) {kvs : List (Key × D)} {a : Addr} {vs : List (Key × V)} (e : Ext B.dl F H F' H') (n1 : F' a = Option.none) (n2 : H a = Option.none) (h : H' a = some (.dK vs)) (r : RpK Z B F' kvs vs) (i : Nat) :
    Ok Z B F' H' (σ.set i (some (.ref a))) (ρ.set i (.dc kvs)) := by
  have k' := k.step e
  have nd : ¬ Dl B.dl a := k.dk.nof n2
  have bh : B.H a = Option.none := by
    cases z : B.H a with
    | none => rfl
    | some o =>
      exfalso
      by_cases d : Dl B.dl a
      · exact nd d
      · rw [k.ext.hh a o z d] at n2; cases n2
  refine ⟨k'.ext, k'.df, k'.dk0, by rw [List.length_set, List.length_set]; exact k'.len, fun j s e' => ?_, fun j l ds es b ne e1 e2 e3 e4 => ?_⟩
  · by_cases hj : i = j
    · subst hj
      rw [List.getElem?_set] at e' ⊢
      simp only [if_true] at e' ⊢
      split at e'
      · rename_i hl
        cases e'
        rw [if_pos (by rw [k'.len]; exact hl)]
        exact ⟨a, vs, rfl, ⟨n1, bh, nd⟩, h, r.1, r.2⟩
      · cases e'
    · rw [List.getElem?_set_ne hj] at e' ⊢
      exact k'.sl j s e'
  · have w1 : i ≠ j := fun z => by
      subst z
      rw [List.getElem?_set] at e1
      simp only [if_true] at e1
      split at e1 <;> cases e1
    have w2 : i ≠ l := fun z => by
      subst z
      rw [List.getElem?_set] at e2
      simp only [if_true] at e2
      split at e2 <;> cases e2
    rw [List.getElem?_set_ne w1] at e1 e3
    rw [List.getElem?_set_ne w2] at e2 e4
    exact k'.inj j l _ _ b ne e1 e2 e3 e4
/-- a dict of one's own is changed -/
theorem Ok.mutDc (k : Ok Z B F H σ ρ) {i : Nat} {kvs kvs' : List (Key × D)} {a : Addr} {vs vs' : List (Key × V)} (e : ρ[i]? = some (.dc kvs)) (ea : σ[i]? = some (some (.ref a))) (h0 : H a = some (.dK vs)) (r : RpK Z B F kvs' vs') (nd : noDc (ρ.set i .no) = true) :
    Ok Z B F (upd H a (.dK vs')) σ (ρ.set i (.dc kvs')) := by
  obtain ⟨a', vs0, ea', ⟨o1, o2, o3⟩, h1, ek1, r1⟩ := k.sl i _ e
  rw [ea] at ea'
  cases ea'
  refine ⟨⟨k.ext.ff, fun b o w => ?_, fun b o w n => ?_, k.ext.fr, k.ext.dk.upd o3⟩, k.df, k.dk0, by rw [List.length_set]; exact k.len, fun j s e' => ?_, fun j l ds es b ne e1 e2 e3 e4 => ?_⟩
  · rw [upd_ne (fun z => by subst z; rw [o1] at w; cases w)]
    exact k.fh b o w
  · rw [upd_ne (fun z => by subst z; rw [o2] at w; cases w)]
    exact k.ext.hh b o w n
  · by_cases h : i = j
    · subst h
      rw [List.getElem?_set] at e'
      simp only [if_true] at e'
      split at e'
      · cases e'
        exact ⟨a, vs', ea, ⟨o1, o2, o3⟩, upd_same, r.1, r.2⟩
      · cases e'
    · rw [List.getElem?_set_ne h] at e'
      cases s with
      | no => trivial
      | ex n es => exact k.sl j _ e'
      | sh d => exact k.sl j _ e'
      | ow es =>
        obtain ⟨b, ws, e5, p, q, r2⟩ := k.sl j _ e'
        refine ⟨b, ws, e5, p, ?_, r2⟩
        rw [upd_ne (fun z => by subst z; rw [h0] at q; cases q)]
        exact q
      | me c' es =>
        obtain ⟨b, C2, dx2, fs2, e5, p, g, q, ek2, r2⟩ := k.sl j _ e'
        refine ⟨b, C2, dx2, fs2, e5, p, g, ?_, ek2, r2⟩
        rw [upd_ne (fun z => by subst z; rw [h0] at q; cases q)]
        exact q
      | dc es =>
        exact (noDc_at nd (j := j) (es := es) (by rw [List.getElem?_set_ne h]; exact e')).elim
  · have w1 : i ≠ j := fun z => by
      subst z
      rw [List.getElem?_set] at e1
      simp only [if_true] at e1
      split at e1 <;> cases e1
    have w2 : i ≠ l := fun z => by
      subst z
      rw [List.getElem?_set] at e2
      simp only [if_true] at e2
      split at e2 <;> cases e2
    rw [List.getElem?_set_ne w1] at e1
    rw [List.getElem?_set_ne w2] at e2
    exact k.inj j l _ _ b ne e1 e2 e3 e4
end
/-- a new dict -/
def PD1 (Z : Kx) (B : Bx) (F H : Hp) (Q : VK) : List (Key × D) → Prop := fun kvs => ∀ F' H' a vs, Ext B.dl F H F' H' → F' a = none → H a = none → H' a = some (.dK vs) → RpK Z B F' kvs vs → Q (.ref a) H'
def yDn (Z : Kx) (B : Bx) (m : Rho → R (List (Key × D))) : TE := fun σ H Q => ∃ F ρ, Ok Z B F H σ ρ ∧ (m ρ).all (PD1 Z B F H Q) (XpE Z B F H σ)
def mDc (kvs : List (Key × D)) : Rho → R (List (Key × D)) := fun _ => .ok kvs
def mOwnD (i : Nat) (m : Rho → R (List (Key × D))) : Rho → R Out := fun ρ => lift ρ (m ρ) fun kvs => .ok (.next (ρ.set i (.dc kvs)))
section
variable {X : Cx} {B : Bx} {e o ix value : Expr} {pos pos' cpos apos : Pos} {mk mv : Rho → R D}
theorem ce_d0 : PE X (.Dict [] [] pos) (yDn X.kx B (mDc [])) := pe_imp pe_dnewK fun σ H Q ⟨F, ρ, ok, q⟩ p hp =>
  q F _ p [] (.own ok.fh ok.dk hp _) (same_none ok.fh hp) hp upd_same RpK.nil
/-- constants -/
def cks : List (Key × D) → List (TE × TE) := fun l => l.map fun p => (tC (kV p.1), tC p.2.v)
theorem cks_pairs {σ : L2.St} {Q : List (V × V) → Hp → Prop} : ∀ (l : List (Key × D)) (acc : List (V × V)) (H : Hp), tPairs (cks l) σ H Q ↔ Q (l.map fun p => (kV p.1, p.2.v)) H
  | [], _, H => Iff.rfl
  | p :: l, acc, H => by
    show (tPairs (cks l) σ H fun ps H3 => Q ((kV p.1, p.2.v) :: ps) H3) ↔ _
    rw [cks_pairs (Q := fun ps H3 => Q ((kV p.1, p.2.v) :: ps) H3) l acc H]
    rfl
theorem rpk_flat {Z : Kx} {F : Hp} : ∀ {l : List (Key × D)}, (∀ p ∈ l, ∀ F : Hp, RpX Z B F p.2 p.2.v) → RpK Z B F l (l.map fun p => (p.1, p.2.v))
  | [], _ => RpK.nil
  | p :: l, h => RpK.cons (h p List.mem_cons_self F) (rpk_flat fun q hq => h q (List.mem_cons_of_mem _ hq))
theorem ce_dcs {l : List (Key × D)} {keys : List (Option Expr)} {values : List Expr} (h : PPs X pos keys values (cks l)) (hr : ∀ p ∈ l, ∀ F : Hp, RpX X.kx B F p.2 p.2.v) (h15 : l.length ≤ 15) (hall : keys.all (·.isSome) = true := by rfl) (hl : keys.length = values.length := by rfl) (h0 : keys ≠ [] := by (intro z; cases z)) (hk : keys.length ≤ 15 := by decide) :
    PE X (.Dict keys values pos) (yDn X.kx B (mDc (mergeD [] l))) := pe_imp (pe_disp h hall hl h0 hk) fun σ H Q ⟨F, ρ, ok, q⟩ p hp => by
  refine (cks_pairs l [] _).mpr ⟨upd_same, l.map fun p => (p.1, p.2.v), by rw [List.map_map]; rfl, by rw [List.length_map]; exact h15, ?_⟩
  have e : upd (upd H p (.dK [])) p (.dK (mergeK [] (l.map fun p => (p.1, p.2.v)))) = upd H p (.dK (mergeK [] (l.map fun p => (p.1, p.2.v)))) := by
    funext b
    by_cases h : b = p
    · subst h; rw [upd_same, upd_same]
    · rw [upd_ne h, upd_ne h, upd_ne h]
  rw [e]
  exact q F _ p _ (.own ok.fh ok.dk hp _) (same_none ok.fh hp) hp upd_same ((rpk_flat hr).merge RpK.nil)
theorem cs_ownD (i : Nat) {x : Str} {p' : Pos} {m : Rho → R (List (Key × D))} (hN : X.N.Nodup) (he : PE X e (yDn X.kx B m)) (hi : X.N[i]? = some x := by rfl) (hx : Loc X.env.scope x := by first | exact Or.inl rfl | exact Or.inr rfl)
    (hs : swapsWith e (some (.Name x p')) pos.line X.env = pure false := by rfl) (hf : X.fn x = true ∨ X.env.scope.names.lookup x = some .local := by first | exact .inl rfl | exact .inr rfl) : PS X (.Assign [.Name x p'] e pos) (yS X.kx B (mOwnD i m)) :=
  ps_imp (ps_set hN hi hx he hs hf) fun N σ H ⟨F, ρ, ok, q⟩ =>
    ⟨F, ρ, ok, R.all_imp (fun kvs z F' H' a vs e n1 n2 h r => z F' H' (σ.set i (some (.ref a))) e.ff (ok.dict e n1 n2 h r i)) (fun x z => exc_ok' ok z) (R.all_bx.mp q)⟩
/-- k in d, k not in d -/
def mDIn (neg : Bool) (i : Nat) (mk : Rho → R D) : Rho → R D := fun ρ => (mk ρ).bind fun d => match keyD d, ρ[i]? with
  | some k, some (.dc kvs) => .ok (.bl (xor neg (getK kvs k).isSome))
  | _, _ => .stuck
theorem key_of {Z : Kx} {B : Bx} {F H : Hp} {d : D} {v : V} {k : Key} (r : RpB Z B F H d v) (h : keyD d = some k) : v = kV k := by
  cases d with
  | int i => cases h; exact r.int
  | str s => cases h; exact r.str
  | _ => cases h
theorem slot_dc {Z : Kx} {B : Bx} {F H : Hp} {σ : L2.St} {ρ : Rho} {i : Nat} {kvs : List (Key × D)} (ok : Ok Z B F H σ ρ) (e : ρ[i]? = some (.dc kvs)) : ∃ a vs, σ[i]? = some (some (.ref a)) ∧ H a = some (.dK vs) ∧ RpK Z B F kvs vs := by
  obtain ⟨a, vs, ea, _, h, r1, r2⟩ := ok.sl i _ e
  exact ⟨a, vs, ea, h, r1, r2⟩
theorem din_read {i : Nat} {σ : L2.St} {H : Hp} {Q : VK} (q : yE X.kx B (mDIn false i mk) σ H Q) : tDIn (yB X.kx B mk) (tVar i) σ H Q := by
  obtain ⟨F, ρ, ok, q⟩ := q
  refine seqB ok q fun d F1 H1 v e1 r q1 => ?_
  have k1 := ok.step e1
  split at q1
  · rename_i k kvs ek er
    obtain ⟨a, vs, ea, h1, r1⟩ := slot_dc k1 er
    have ev := key_of r ek
    subst ev
    refine ⟨.ref a, ea, a, valV vs k, rfl, .inl ⟨vs, k, .inl h1, rfl, rfl⟩, ?_⟩
    have es : (valV vs k).isSome = (getK kvs k).isSome := by
      rcases r1.get k with ⟨x1, x2⟩ | ⟨_, _, x1, x2, _⟩ <;> rw [x1, x2] <;> rfl
    rw [es]
    rw [Bool.false_xor] at q1
    exact q1 F1 H1 _ e1 (Rp.bl _)
  · exact q1.elim
theorem dnin_read {i : Nat} {σ : L2.St} {H : Hp} {Q : VK} (q : yE X.kx B (mDIn true i mk) σ H Q) : tDNotIn (yB X.kx B mk) (tVar i) σ H Q := by
  obtain ⟨F, ρ, ok, q⟩ := q
  refine seqB ok q fun d F1 H1 v e1 r q1 => ?_
  have k1 := ok.step e1
  split at q1
  · rename_i k kvs ek er
    obtain ⟨a, vs, ea, h1, r1⟩ := slot_dc k1 er
    have ev := key_of r ek
    subst ev
    refine ⟨.ref a, ea, a, valV vs k, rfl, .inl ⟨vs, k, .inl h1, rfl, rfl⟩, ?_⟩
    have es : (valV vs k).isSome = (getK kvs k).isSome := by
      rcases r1.get k with ⟨x1, x2⟩ | ⟨_, _, x1, x2, _⟩ <;> rw [x1, x2] <;> rfl
    rw [es]
    rw [Bool.true_xor] at q1
    exact q1 F1 H1 _ e1 (Rp.bl _)
  · exact q1.elim
theorem ce_din (i : Nat) (hu : X.A.units + 64 < cLine) (hk : PE X ix (yB X.kx B mk)) (ho : PE X o (tVar i)) (hm : behindInMarks .In o = false := by rfl) : PE X (.Compare ix [.In] [o] pos) (yE X.kx B (mDIn false i mk)) := pe_imp (pe_cmp (pc_din (by omega) hk ho) hm) fun _ _ _ q => din_read q
theorem ce_dnin (i : Nat) (hu : X.A.units + 64 < cLine) (hk : PE X ix (yB X.kx B mk)) (ho : PE X o (tVar i)) (hm : behindInMarks .NotIn o = false := by rfl) : PE X (.Compare ix [.NotIn] [o] pos) (yE X.kx B (mDIn true i mk)) := pe_imp (pe_cmp (pc_dnotin (by omega) hk ho) hm) fun _ _ _ q => dnin_read q
theorem ct_din (i : Nat) (hu : X.A.units + 64 < cLine) (hk : PE X ix (yB X.kx B mk)) (ho : PE X o (tVar i)) (hm : behindInMarks .In o = false := by rfl) : PT X (.Compare ix [.In] [o] pos) (yT X.kx B (mTb (mDIn false i mk))) := pt_imp (pt_cmp (pc_din (by omega) hk ho) hm) (bool_read fun _ _ _ q => din_read q)
theorem ct_dnin (i : Nat) (hu : X.A.units + 64 < cLine) (hk : PE X ix (yB X.kx B mk)) (ho : PE X o (tVar i)) (hm : behindInMarks .NotIn o = false := by rfl) : PT X (.Compare ix [.NotIn] [o] pos) (yT X.kx B (mTb (mDIn true i mk))) := pt_imp (pt_cmp (pc_dnotin (by omega) hk ho) hm) (bool_read fun _ _ _ q => dnin_read q)
/-- with the dict in a slot -/
def withDc {α : Type} (i : Nat) (f : List (Key × D) → Rho → R α) : Rho → R α := fun ρ => match ρ[i]? with
  | some (.dc kvs) => f kvs ρ
  | _ => .stuck
theorem dc_all {α : Type} {P : α → Prop} {E : D → Prop} {i : Nat} {f : List (Key × D) → Rho → R α} {ρ : Rho} (h : (withDc i f ρ).all P E) : ∃ kvs, ρ[i]? = some (.dc kvs) ∧ (f kvs ρ).all P E := by
  unfold withDc at h
  split at h
  · exact ⟨_, by assumption, h⟩
  · exact h.elim
def atK {α : Type} (d : D) (f : Key → R α) : R α := match keyD d with
  | some k => f k
  | none => .stuck
theorem atK_all {α : Type} {P : α → Prop} {E : D → Prop} {d : D} {f : Key → R α} (h : (atK d f).all P E) : ∃ k, keyD d = some k ∧ (f k).all P E := by
  unfold atK at h
  split at h
  · exact ⟨_, by assumption, h⟩
  · exact h.elim
/-- d[k] -/
def mDGet (i : Nat) (mk : Rho → R D) : Rho → R D := withDc i fun kvs ρ => (mk ρ).bind fun d => atK d fun k => match getK kvs k with
  | some x => .ok x
  | none => .stuck
theorem ce_dget (i : Nat) (hu : X.A.units + 64 < cLine) (ho : PE X o (tVar i)) (hk : PE X ix (yB X.kx B mk)) (hs : NoSl ix) : PE X (.Subscript o ix pos) (yE X.kx B (mDGet i mk)) :=
  pe_imp (pe_dget (by omega) ho hk hs) fun σ H Q ⟨F, ρ, ok, q⟩ => by
    obtain ⟨kvs, er, q⟩ := dc_all q
    obtain ⟨a, vs, ea, h0, r0⟩ := slot_dc ok er
    refine ⟨.ref a, ea, ?_⟩
    refine seqB ok q fun d F1 H1 v e1 r q1 => ?_
    have k1 := ok.step e1
    obtain ⟨a', vs', ea', h1, r1⟩ := slot_dc k1 er
    rw [ea] at ea'
    cases ea'
    obtain ⟨k, ek, q1⟩ := atK_all q1
    have ev := key_of r ek
    subst ev
    rcases r1.get k with ⟨x1, x2⟩ | ⟨d2, v2, x1, x2, x3⟩
    · rw [x2] at q1
      exact q1.elim
    · rw [x2] at q1
      exact ⟨a, v2, rfl, .inl ⟨vs', k, .inl h1, rfl, x1.symm⟩, q1 F1 H1 v2 e1 x3⟩
/-- d.get(k) -/
def mDGet1 (i : Nat) (mk : Rho → R D) : Rho → R D := withDc i fun kvs ρ => (mk ρ).bind fun d => atK d fun k => .ok ((getK kvs k).getD .non)
theorem ce_dget1 (i : Nat) (hu : X.A.units + 64 < cLine) (ho : PE X o (tVar i)) (hk : PE X e (yB X.kx B mk)) (m : M1 X o "get" apos e cpos) : PE X (.Call (.Attribute o "get" apos) [e] [] cpos) (yE X.kx B (mDGet1 i mk)) :=
  pe_imp (pe_dget1 (by omega) ho hk m) fun σ H Q ⟨F, ρ, ok, q⟩ => by
    obtain ⟨kvs, er, q⟩ := dc_all q
    obtain ⟨a, vs, ea, h0, r0⟩ := slot_dc ok er
    refine ⟨.ref a, ea, a, rfl, .inl ⟨vs, .inl h0⟩, ?_⟩
    refine seqB ok q fun d F1 H1 v e1 r q1 => ?_
    have k1 := ok.step e1
    obtain ⟨a', vs', ea', h1, r1⟩ := slot_dc k1 er
    rw [ea] at ea'
    cases ea'
    obtain ⟨k, ek, q1⟩ := atK_all q1
    have ev := key_of r ek
    subst ev
    refine ⟨valV vs' k, .inl ⟨vs', k, .inl h1, rfl, rfl⟩, ?_⟩
    rcases r1.get k with ⟨x1, x2⟩ | ⟨d2, v2, x1, x2, x3⟩
    · rw [x2] at q1
      rw [x1]
      exact q1 F1 H1 .non e1 Rp.non
    · rw [x2] at q1
      rw [x1]
      exact q1 F1 H1 v2 e1 x3
/-- d.get(k, x) -/
def mDGet2 (i : Nat) (mk mv : Rho → R D) : Rho → R D := withDc i fun kvs ρ => (mk ρ).bind fun d => (mv ρ).bind fun x => atK d fun k => .ok ((getK kvs k).getD x)
theorem ce_dget2 {f : Expr} (i : Nat) (hu : X.A.units + 64 < cLine) (ho : PE X o (tVar i)) (hk : PE X e (yB X.kx B mk)) (hv : PE X f (yE X.kx B mv)) (m : M2 X o "get" apos e f cpos) : PE X (.Call (.Attribute o "get" apos) [e, f] [] cpos) (yE X.kx B (mDGet2 i mk mv)) :=
  pe_imp (pe_dget2 (by omega) ho hk hv m) fun σ H Q ⟨F, ρ, ok, q⟩ => by
    obtain ⟨kvs, er, q⟩ := dc_all q
    obtain ⟨a, vs, ea, h0, r0⟩ := slot_dc ok er
    refine ⟨.ref a, ea, a, rfl, .inl ⟨vs, .inl h0⟩, ?_⟩
    refine seqB ok q fun d F1 H1 v e1 r q1 => ?_
    have k1 := ok.step e1
    refine seqE k1 q1 fun x F2 H2 v2 e2 r2 q2 => ?_
    have k2 := k1.step e2
    obtain ⟨a', vs', ea', h1, r1⟩ := slot_dc k2 er
    rw [ea] at ea'
    cases ea'
    obtain ⟨k, ek, q2⟩ := atK_all q2
    have ev := key_of r ek
    subst ev
    refine ⟨valV vs' k, .inl ⟨vs', k, .inl h1, rfl, rfl⟩, ?_⟩
    rcases r1.get k with ⟨x1, x2⟩ | ⟨d2, v3, x1, x2, x3⟩
    · rw [x2] at q2
      rw [x1]
      exact q2 F2 H2 v2 (e1.trans e2) r2
    · rw [x2] at q2
      rw [x1]
      exact q2 F2 H2 v3 (e1.trans e2) x3
/-- d[k] = v -/
def mDPut (i : Nat) (mv mk : Rho → R D) : Rho → R Out := withDc i fun kvs ρ => lift ρ (mv ρ) fun v => lift ρ (mk ρ) fun d => atK d fun k => R.grd (noDc (ρ.set i .no) = true ∧ kvs.length < 16777216) (.ok (.next (ρ.set i (.dc (putD kvs k v)))))
theorem cs_dput (i : Nat) (hu : X.A.units + 64 < cLine) (hv : PE X value (yE X.kx B mv)) (ho : PE X o (tVar i)) (hk : PE X ix (yB X.kx B mk)) (hs : swapsWith value (some (.Subscript o ix pos')) pos.line X.env = pure false := by rfl) :
    PS X (.Assign [.Subscript o ix pos'] value pos) (yS X.kx B (mDPut i mv mk)) := ps_imp (ps_dput (by omega) ho hk hv hs) fun D σ H ⟨F, ρ, ok, q⟩ => by
  obtain ⟨kvs, er, q⟩ := dc_all q
  refine sE ok q fun x F1 H1 v e1 r q1 => ?_
  have k1 := ok.step e1
  obtain ⟨a, vs, ea, h0, r0⟩ := slot_dc k1 er
  refine ⟨.ref a, ea, ?_⟩
  refine sB k1 q1 fun d F2 H2 v2 e2 r2 q2 => ?_
  have k2 := k1.step e2
  obtain ⟨a', vs', ea', h1, r1⟩ := slot_dc k2 er
  rw [ea] at ea'
  cases ea'
  obtain ⟨k, ek, q2⟩ := atK_all q2
  have ev := key_of r2 ek
  subst ev
  obtain ⟨⟨nd, hl⟩, q2⟩ := R.all_grd.mp q2
  refine ⟨a, _, rfl, .inl ⟨vs', k, h1, rfl, by rw [r1.len, szl]; exact hl, rfl⟩, ?_⟩
  exact q2 F2 _ σ (Same.refl F2) (k2.mutDc er ea h1 (r1.put (Rp.mono e2.ff _ _ r)) nd)
end
end Y
/-! # Z14 -/
set_option Elab.async false
set_option linter.all false
set_option maxRecDepth 100000
set_option maxHeartbeats 4000000
namespace Y
open PySem PySem.Spec PyProof.Rows L2
/-! ### sorted, of ints; list(range(n)) -/
def srt (ns : List Int) : List Int := ns.mergeSort fun a b => decide (a ≤ b)
theorem srt_perm (ns : List Int) : (srt ns).Perm ns := List.mergeSort_perm ns _
theorem srt_sorted (ns : List Int) : (srt ns).Pairwise (· ≤ ·) := by
  have h := List.pairwise_mergeSort (le := fun a b : Int => decide (a ≤ b)) (fun a b c h1 h2 => by
    have h1 := of_decide_eq_true h1
    have h2 := of_decide_eq_true h2
    exact decide_eq_true (Int.le_trans h1 h2)) (fun a b => by
    rcases Int.le_total a b with h | h
    · rw [decide_eq_true h]; rfl
    · rw [decide_eq_true h, Bool.or_true]) ns
  exact h.imp fun h => of_decide_eq_true h
theorem srt_uniq {ns ms : List Int} (p : ms.Perm ns) (s : ms.Pairwise (· ≤ ·)) : ms = srt ns :=
  List.Perm.eq_of_pairwise (le := (· ≤ ·)) (fun a b _ _ h1 h2 => Int.le_antisymm h1 h2) s (srt_sorted ns) (p.trans (srt_perm ns).symm)
def dSortI : List D → R D
  | [.lst ds] => match ds.mapM D.int? with
    | some ns => .ok (.lst ((srt ns).map D.int))
    | none => .stuck
  | _ => .stuck
section
variable {X : Cx} {B : Bx}
theorem cd_sortI : CallD X.kx B (rSortedI X.K) dSortI := fun ds vs F H Q E s k r q => by
  unfold dSortI at q
  split at q
  · split at q
    · rename_i ns en
      obtain ⟨v, rfl, r1⟩ := one_arg r
      obtain ⟨p, ws, rfl, h1, l1⟩ := r1.lst s
      have ew := ints_of en l1
      subst ew
      refine ⟨p, ns, rfl, .inl (.inl h1), fun ms A hp hs hA => ?_⟩
      have e := srt_uniq hp hs
      subst e
      exact fin_lst s k (RpL.ints (srt ns)) q A hA
    · exact q.elim
  · exact q.elim
theorem ce_sortI {e : Expr} {es : List Expr} {p pos : Pos} {mr : Rho → R (List D)} (ha : PA X (e :: es) (yAB X.kx B mr)) (hm : X.mg "sorted" = none) (hg : Gl X "sorted" := by rfl) (he : starEach (e :: es) X.env = (false, eval e X.env) :: starEach es X.env := by rfl) (hpl : (backTo pos (starEach es X.env)).any (·.1) = false := by rfl) :
    PE X (.Call (.Name "sorted" p) (e :: es) [] pos) (yE X.kx B (mBi dSortI mr)) := ce_bi cr_sortedI cd_sortI hm (by decide +kernel) ha hg (by decide) (by decide) he hpl
def mLstRg (m : Rho → R D) : Rho → R (List D) := fun ρ => (m ρ).bind fun d => match d with
  | .int j => R.grd (-(2 ^ 62) ≤ j ∧ j ≤ 16777216) (.ok (rangeD 0 j.toNat 1))
  | _ => .stuck
theorem co_listR {e : Expr} {p p' pos pos' : Pos} {m : Rho → R D} (ha : PE X e (yE X.kx B m)) (hc : X.calm = true) (ht : X.mg "list" = none) (hr : X.mg "range" = none) (hg : Gl X "list" := by rfl) (hg2 : Gl X "range" := by rfl)
    (na : starEach [.Call (.Name "range" p) [e] [] pos] X.env = (false, eval (.Call (.Name "range" p) [e] [] pos) X.env) :: starEach [] X.env := by rfl) (na2 : starEach [e] X.env = (false, eval e X.env) :: starEach [] X.env := by rfl) :
    PE X (.Call (.Name "list" p') [.Call (.Name "range" p) [e] [] pos] [] pos') (yO X.kx B (mLstRg m)) := pe_imp (pe_listRg hc hg ht (prg_1 hg2 hr ha na2) na) fun σ H Q ⟨F, ρ, ok, q⟩ => by
  refine seqE ok q fun d F' H' v e1 r1 q1 => ?_
  have k := ok.step e1
  split at q1
  · rename_i j
    obtain ⟨⟨h1, h2⟩, q1⟩ := R.all_grd.mp q1
    unfold RpX Rp at r1
    subst r1
    refine ⟨j, rfl, ⟨by omega, by omega, by omega, by omega, by omega⟩, fun p hp => ?_⟩
    refine q1 _ _ p _ (e1.trans (.own k.fh k.dk hp _)) (same_none k.fh hp) ?_ upd_same (rpl_rgV j)
    cases z : H p with
    | none => rfl
    | some o =>
      exfalso
      by_cases n : Dl B.dl p
      · exact k.dk.there n hp
      · rw [e1.hh p o z n] at hp; cases hp
  · exact q1.elim
theorem flat_rp {Z : Kx} {F : Hp} {d : D} (h : d.flat = true) : RpX Z B F d d.v := by
  cases d with
  | non => exact Rp.non
  | bl b => exact Rp.bl b
  | int i => exact Rp.int i
  | str s => exact Rp.str s
  | _ => cases h
theorem ce_dcf {l : List (Key × D)} {pos : Pos} {keys : List (Option Expr)} {values : List Expr} (h : PPs X pos keys values (cks l)) (hf : (l.all fun p => p.2.flat) = true := by rfl) (h15 : l.length ≤ 15 := by decide) (hall : keys.all (·.isSome) = true := by rfl) (hl : keys.length = values.length := by rfl) (h0 : keys ≠ [] := by (intro z; cases z)) (hk : keys.length ≤ 15 := by decide) :
    PE X (.Dict keys values pos) (yDn X.kx B (mDc (mergeD [] l))) := ce_dcs h (fun p hp F => flat_rp (List.all_eq_true.mp hf p hp)) h15 hall hl h0 hk
end
end Y
/-! # Z15 -/
set_option Elab.async false
set_option linter.all false
set_option maxRecDepth 100000
set_option maxHeartbeats 4000000
namespace Y
open PySem PySem.Spec PyProof.Rows L2
open PySem.Sem (wp)
/-! ### zip of a tuple and a list as long -/
/-- all cells but cs keep what they hold -/
def Kp (cs : List Addr) (h h' : Heap) : Prop := ∀ c o, c ∉ cs → h.get? c = some o → h'.get? c = some o
theorem Kp.refl (cs : List Addr) (h : Heap) : Kp cs h h := fun _ _ _ e => e
theorem Kp.step {cs : List Addr} {h h' h2 : Heap} {a : Addr} (k : Kp cs h h') (s : Heap.SameBut a h' h2) (ha : a ∈ cs) : Kp cs h h2 := fun c o nc e => s.extBut _ _ (fun q => nc (q ▸ ha)) (k c o nc e)
theorem Kp.more {cs ds : List Addr} {h h' : Heap} (k : Kp cs h h') (s : ∀ c ∈ cs, c ∈ ds) : Kp ds h h' := fun c o nc e => k c o (fun q => nc (s c q)) e
structure Ap (z TI TO i1 i2 : Addr) : Prop where
  a : TO ≠ z
  b : i1 ≠ z
  c : i2 ≠ z
  d : TO ≠ i1
  e : TO ≠ i2
  f : i1 ≠ i2
section
variable {P : Program} {w : World} {A : Around} {E : Value → Shared → Prop} {s : Shared}
/-- what one draw gives, and what it leaves -/
def Drw (P : Program) (w : World) (it : Addr) (v : Value) (cs : List Addr) (h : Heap) (G : Heap → Prop) : Prop := ∀ (A : Around) (E : Value → Shared → Prop) (s : Shared) (Q : Value → Shared → Prop), Kp cs h s.heap → (∀ h', G h' → Heap.SameBut it s.heap h' → Q v { s with heap := h' }) → wpAny (model P w) A (Builtin.SmallTypes.nextOf (.ref it)) Q E s
theorem zip_draws {z TI TO i1 i2 : Addr} {x y a b : Value} {G1 G2 : Heap → Prop} {Q : Value → Shared → Prop} (n : Ap z TI TO i1 i2) (hz : IsZip s.heap z TI TO .none) (hTI : IsPair s.heap TI (.ref i1) (.ref i2)) (hTO : IsPair s.heap TO a b)
    (d1 : Drw P w i1 x [z, TO] s.heap G1) (d2 : Drw P w i2 y [z, TO, i1] s.heap G2) (g1 : ∀ h h', G1 h → Kp [z, TO, i2] h h' → G1 h') (g2 : ∀ h h', G2 h → Kp [z, TO] h h' → G2 h')
    (hQ : ∀ h', IsZip h' z TI TO (rawInt s.heap.objs.size) → IsPair h' TO x y → G1 h' → G2 h' → IsPair h' s.heap.objs.size x y → Kp [z, TO, i1, i2] s.heap h' → Q (.ref s.heap.objs.size) { s with heap := h' }) :
    wpAny (model P w) A (Builtin.«zip.__next__» ⟨[.ref z], []⟩) (fun fin s' => ∃ v, fin = .done (.ret v) ∧ Q v s') E s := by
  show wpAny _ _ (field (.ref z) 2 >>= _) _ _ _
  refine wpAny_bind (wpAny_field hz rfl (x := .bool false) rfl ?_)
  show wpAny _ _ (field (.ref z) 3 >>= _) _ _ _
  refine wpAny_bind (wpAny_field hz rfl (x := .ref TI) rfl (wpAny_bind (wpAny_seqItems hTI rfl ?_)))
  show wpAny _ _ (Builtin.SmallTypes.ownedTupleIsFree (.ref z) >>= _) _ _ _
  refine wpAny_bind ?_
  unfold Builtin.SmallTypes.ownedTupleIsFree
  refine wpAny_bind (wpAny_field hz rfl (x := .none) rfl (wpAny_pure ?_))
  simp only [if_true]
  refine wpAny_bind (wpAny_rule (wpAny_bind (wpAny_field hz rfl (x := .ref TO) rfl (wpAny_bind (wpAny_setField_rec hz (by simp) fun ha za sa => wpAny_bind ?_)))))
  have ka : Kp [z, TO] s.heap ha := (Kp.refl _ _).step sa (by simp)
  have ta : IsPair ha TO a b := sa.extBut _ _ n.a hTO
  simp only [List.zipIdx_cons, List.zipIdx_nil, List.forIn_cons, List.forIn_nil]
  refine wpAny_bind (wpAny_bind (wpAny_onRaise ?_))
  show wpAny _ _ (Builtin.SmallTypes.nextOf (.ref i1) >>= _) _ _ _
  refine wpAny_bind (d1 _ _ _ _ ka fun hb ob sb => wpAny_pure ?_)
  have kb : Kp [z, TO, i1] s.heap hb := (ka.more (by simp)).step sb (by simp)
  have tb := sb.extBut _ _ n.d ta
  refine wpAny_bind (wpAny_seqItems tb rfl (wpAny_bind (wpAny_updateSeq_pair tb fun hc tc sc => wpAny_bind (wpAny_letGo (wpAny_pure ?_)))))
  replace tc : IsPair hc TO x b := tc
  have kc : Kp [z, TO, i1] s.heap hc := kb.step sc (by simp)
  have oc : G1 hc := g1 _ _ ob ((Kp.refl _ _).step sc (by simp))
  refine wpAny_bind (wpAny_bind (wpAny_onRaise ?_))
  show wpAny _ _ (Builtin.SmallTypes.nextOf (.ref i2) >>= _) _ _ _
  refine wpAny_bind (d2 _ _ _ _ kc fun hd od sd => wpAny_pure ?_)
  have kd : Kp [z, TO, i1, i2] s.heap hd := (kc.more (by simp)).step sd (by simp)
  have od1 : G1 hd := g1 _ _ oc ((Kp.refl _ _).step sd (by simp))
  have td := sd.extBut _ _ n.e tc
  refine wpAny_bind (wpAny_seqItems td rfl (wpAny_bind (wpAny_updateSeq_pair td fun he te se => wpAny_bind (wpAny_letGo (wpAny_pure (wpAny_pure ?_))))))
  replace te : IsPair he TO x y := te
  have ke : Kp [z, TO, i1, i2] s.heap he := kd.step se (by simp)
  have oe1 : G1 he := g1 _ _ od1 ((Kp.refl _ _).step se (by simp))
  have oe2 : G2 he := g2 _ _ od ((Kp.refl _ _).step se (by simp))
  have size : he.objs.size = s.heap.objs.size := by rw [se.1, sd.1, sc.1, sb.1, sa.1]
  have ze : IsZip he z TI TO .ellipsis := se.extBut _ _ n.a.symm (sd.extBut _ _ n.c.symm (sc.extBut _ _ n.a.symm (sb.extBut _ _ n.b.symm za)))
  refine wpAny_bind (wpAny_seqItems te rfl (wpAny_bind (wpAny_newTuple ?_)))
  show wpAny _ _ (Builtin.SmallTypes.ownedTupleHandOut (.ref z) (.ref he.objs.size) >>= _) _ _ _
  refine wpAny_bind ?_
  unfold Builtin.SmallTypes.ownedTupleHandOut
  have lz : z < he.objs.size := Heap.lt_size ze
  have zf : IsZip (he.push { cls := .type "tuple", data := .seq #[x, y] }) z TI TO .ellipsis := Heap.get?_push_of_some _ ze
  refine wpAny_bind (wpAny_setField_rec zf (by simp) fun hg zg sg => ?_)
  replace zg : IsZip hg z TI TO (rawInt he.objs.size) := zg
  refine wpAny_setField_rec zg (by simp) fun hi zi si => ?_
  replace zi : IsZip hi z TI TO (rawInt he.objs.size) := zi
  have kk : Kp [z] he hi := fun c o nc e => si.extBut _ _ (by simpa using nc) (sg.extBut _ _ (by simpa using nc) (Heap.get?_push_of_some _ e))
  have pi : IsPair hi he.objs.size x y := si.extBut _ _ (Nat.ne_of_gt lz) (sg.extBut _ _ (Nat.ne_of_gt lz) (Heap.get?_push_size _ rfl))
  refine wpAny_pure ⟨_, rfl, ?_⟩
  show Q (.ref he.objs.size) _
  rw [size] at zi pi ⊢
  exact hQ hi zi (kk _ _ (by simp [n.a]) te) (g1 _ _ oe1 (kk.more (by simp))) (g2 _ _ oe2 (kk.more (by simp))) pi fun c o nc e => kk c o (by simp at nc ⊢; exact nc.1) (ke c o nc e)
/-- the tuple is at its end -/
theorem zip_over {z TI TO i1 i2 l1 : Addr} {k1 : Nat} {xs : Array Value} {a b : Value} {Q : Fin → Shared → Prop} (hh : A.handled = none) (n1 : i1 ≠ z) (n2 : l1 ≠ z) (hz : IsZip s.heap z TI TO .none) (hTI : IsPair s.heap TI (.ref i1) (.ref i2))
    (h1 : s.heap.IsTupleIter i1 l1 k1) (hl1 : s.heap.IsTuple l1 xs) (hx : xs[k1]? = none)
    (hE : ∀ h' e, Kp [z, i1] s.heap h' → (∃ o, h'.get? e = some o ∧ o.cls = .type "StopIteration") → E (.ref e) { s with heap := h' }) :
    wpAny (model P w) A (Builtin.«zip.__next__» ⟨[.ref z], []⟩) Q E s := by
  show wpAny _ _ (field (.ref z) 2 >>= _) _ _ _
  refine wpAny_bind (wpAny_field hz rfl (x := .bool false) rfl ?_)
  show wpAny _ _ (field (.ref z) 3 >>= _) _ _ _
  refine wpAny_bind (wpAny_field hz rfl (x := .ref TI) rfl (wpAny_bind (wpAny_seqItems hTI rfl ?_)))
  show wpAny _ _ (Builtin.SmallTypes.ownedTupleIsFree (.ref z) >>= _) _ _ _
  refine wpAny_bind ?_
  unfold Builtin.SmallTypes.ownedTupleIsFree
  refine wpAny_bind (wpAny_field hz rfl (x := .none) rfl (wpAny_pure ?_))
  simp only [if_true]
  refine wpAny_bind (wpAny_rule (wpAny_bind (wpAny_field hz rfl (x := .ref TO) rfl (wpAny_bind (wpAny_setField_rec hz (by simp) fun ha za sa => wpAny_bind ?_)))))
  replace za : IsZip ha z TI TO .ellipsis := za
  simp only [List.zipIdx_cons, List.zipIdx_nil, List.forIn_cons, List.forIn_nil]
  refine wpAny_bind (wpAny_bind (wpAny_onRaise ?_))
  show wpAny _ _ (Builtin.SmallTypes.nextOf (.ref i1) >>= _) _ _ _
  refine wpAny_bind (RZ.nextOf_tuple_end hh (h1.extBut sa.extBut n1) (hl1.extBut sa.extBut n2) hx fun hb e sb he => ?_)
  obtain ⟨o, ho, hc⟩ := he
  have zb : IsZip hb z TI TO .ellipsis := sb _ _ n1.symm za
  have ez : e ≠ z := fun q => by
    rw [q, zb] at ho
    cases ho
    simp at hc
  refine wpAny_setField_rec zb (by simp) fun hd _ sd => hE hd e (fun c u nc q => ?_) ⟨o, sd.extBut _ _ ez ho, hc⟩
  simp at nc
  exact sd.extBut _ _ nc.1 (sb _ _ nc.2 (sa.extBut _ _ nc.1 q))
theorem zip_pick {z TI TO i1 i2 : Addr} {x y a b : Value} {G1 G2 : Heap → Prop} {Q : Option Value → Shared → Prop} (n : Ap z TI TO i1 i2) (hz : IsZip s.heap z TI TO .none) (hTI : IsPair s.heap TI (.ref i1) (.ref i2)) (hTO : IsPair s.heap TO a b)
    (d1 : Drw P w i1 x [z, TO] s.heap G1) (d2 : Drw P w i2 y [z, TO, i1] s.heap G2) (g1 : ∀ h h', G1 h → Kp [z, TO, i2] h h' → G1 h') (g2 : ∀ h h', G2 h → Kp [z, TO] h h' → G2 h')
    (hQ : ∀ h', IsZip h' z TI TO (rawInt s.heap.objs.size) → IsPair h' TO x y → G1 h' → G2 h' → IsPair h' s.heap.objs.size x y → Kp [z, TO, i1, i2] s.heap h' → Q (some (.ref s.heap.objs.size)) { s with heap := h' }) :
    wpAny (model P w) A (pyNext (.ref z)) Q E s := by
  have hT : s.TypeIs (.ref z) "zip" := ⟨_, hz, rfl⟩
  unfold pyNext
  exact wpAny_bind (wpAny_attempt (wpAny_callSpecial?_slot (name := Str.ofString "__next__") hT F.slot_zip_next (wpAny_call_entry F.slot_zip_next hT F.entry_zip_next
    (zip_draws n hz hTI hTO d1 d2 g1 g2 fun h' a1 a2 a3 a4 a5 a6 => wpAny_pure (hQ h' a1 a2 a3 a4 a5 a6)) (F.args_zip_next_1 _))))
theorem zip_none {z TI TO i1 i2 l1 : Addr} {k1 : Nat} {xs : Array Value} {Q : Option Value → Shared → Prop} (hh : A.handled = none) (n1 : i1 ≠ z) (n2 : l1 ≠ z) (hz : IsZip s.heap z TI TO .none) (hTI : IsPair s.heap TI (.ref i1) (.ref i2))
    (h1 : s.heap.IsTupleIter i1 l1 k1) (hl1 : s.heap.IsTuple l1 xs) (hx : xs[k1]? = none) (hQ : ∀ h', Kp [z, i1] s.heap h' → Q none { s with heap := h' }) : wpAny (model P w) A (pyNext (.ref z)) Q E s := by
  have hT : s.TypeIs (.ref z) "zip" := ⟨_, hz, rfl⟩
  unfold pyNext
  refine wpAny_bind (wpAny_attempt (wpAny_callSpecial?_slot (name := Str.ofString "__next__") hT F.slot_zip_next (wpAny_call_entry F.slot_zip_next hT F.entry_zip_next (zip_over (a := .none) (b := .none) hh n1 n2 hz hTI h1 hl1 hx fun h' e k he => ?_) (F.args_zip_next_1 _))))
  obtain ⟨o, ho, hc⟩ := he
  exact wpAny_bind (wpAny_isInstance (T := "StopIteration") (b := true) ⟨o, ho, hc⟩ isSubtype_stop (wpAny_pure (hQ _ k)))
end
/-! the zip made -/
def zm1 (h : Heap) (l1 : Addr) : Heap := h.push { cls := .type "tuple_iterator", data := .fields #[.ref l1, .int 0 0] }
def zm2 (h : Heap) (l1 l2 : Addr) : Heap := (zm1 h l1).push { cls := .type "list_iterator", data := .fields #[.ref l2, .int 0 0] }
def zm3 (h : Heap) (l1 l2 : Addr) : Heap := (zm2 h l1 l2).push { cls := .type "tuple", data := .seq #[.ref h.objs.size, .ref (zm1 h l1).objs.size] }
def zm4 (h : Heap) (l1 l2 : Addr) : Heap := (zm3 h l1 l2).push { cls := .type "tuple", data := .seq #[.none, .none] }
def zm5 (h : Heap) (l1 l2 : Addr) : Heap := (zm4 h l1 l2).push { cls := .type "zip", data := .fields #[.none, .bool false, .bool false, .ref (zm2 h l1 l2).objs.size, .ref (zm3 h l1 l2).objs.size] }
theorem zm_new (l1 l2 : Addr) (xs ys : Array Value) : Meets (Builtin.«zip.__new__» ⟨[.type "zip", .ref l1, .ref l2], []⟩) (fun _ R s => s.heap.IsTuple l1 xs ∧ s.heap.IsList l2 ys ∧ R (.ok (.ret (.ref (zm4 s.heap l1 l2).objs.size))) { s with heap := zm5 s.heap l1 l2 }) :=
  .of_wp fun prog w A R s h => by
    obtain ⟨hp, g, d, tk, os⟩ := s
    obtain ⟨a, b, h⟩ := h
    have hsub := sub_zip
    have c1 : Heap.IsTuple (Shared.heap ⟨hp, g, d, tk, os⟩) l1 xs := a
    have c2 : Heap.IsList (Shared.heap ⟨hp.push { cls := .type "tuple_iterator", data := .fields #[.ref l1, .int 0 0] }, g, d, tk, os⟩) l2 ys := Heap.IsList.push b _
    wp_walk using wpAny_pyIter_tuple c1, wpAny_pyIter_list c2
    exact ⟨_, rfl, h⟩
theorem zip_call {P : Program} {w : World} {A : Around} {E : Value → Shared → Prop} {s : Shared} {l1 l2 : Addr} {xs ys : Array Value} {Q : Value → Shared → Prop} (a : s.heap.IsTuple l1 xs) (b : s.heap.IsList l2 ys)
    (h : ∀ h' n, n = s.heap.objs.size → IsZip h' (n + 4) (n + 2) (n + 3) .none → IsPair h' (n + 2) (.ref n) (.ref (n + 1)) → IsPair h' (n + 3) .none .none → h'.IsTupleIter n l1 0 → h'.IsListIter (n + 1) l2 0 → (∀ c o, s.heap.get? c = some o → h'.get? c = some o) → Q (.ref (n + 4)) { s with heap := h' }) :
    wpAny (model P w) A (call (.type "zip") [.ref l1, .ref l2]) Q E s := by
  refine callType_new F.called_zip (by decide) (F.typeCall_zip_2 _ _) (F.newCall_zip_2 _ _) (fun obj => F.args_object_init_3 obj _ _) F.entry_zip_new (zm_new l1 l2 xs ys) ⟨a, b, ?_⟩
  have s1 : (zm1 s.heap l1).objs.size = s.heap.objs.size + 1 := Heap.size_push ..
  have s2 : (zm2 s.heap l1 l2).objs.size = s.heap.objs.size + 2 := (Heap.size_push ..).trans (by rw [s1])
  have s3 : (zm3 s.heap l1 l2).objs.size = s.heap.objs.size + 3 := (Heap.size_push ..).trans (by rw [s2])
  have s4 : (zm4 s.heap l1 l2).objs.size = s.heap.objs.size + 4 := (Heap.size_push ..).trans (by rw [s3])
  have up4 : ∀ c o, (zm4 s.heap l1 l2).get? c = some o → (zm5 s.heap l1 l2).get? c = some o := fun c o e => Heap.get?_push_of_some _ e
  have up3 : ∀ c o, (zm3 s.heap l1 l2).get? c = some o → (zm5 s.heap l1 l2).get? c = some o := fun c o e => up4 c o (Heap.get?_push_of_some _ e)
  have up2 : ∀ c o, (zm2 s.heap l1 l2).get? c = some o → (zm5 s.heap l1 l2).get? c = some o := fun c o e => up3 c o (Heap.get?_push_of_some _ e)
  have up1 : ∀ c o, (zm1 s.heap l1).get? c = some o → (zm5 s.heap l1 l2).get? c = some o := fun c o e => up2 c o (Heap.get?_push_of_some _ e)
  have g5 : (zm5 s.heap l1 l2).get? (zm4 s.heap l1 l2).objs.size = some _ := Heap.get?_push_size _ rfl
  have g4 : (zm5 s.heap l1 l2).get? (zm3 s.heap l1 l2).objs.size = some _ := up4 _ _ (Heap.get?_push_size _ rfl)
  have g3 : (zm5 s.heap l1 l2).get? (zm2 s.heap l1 l2).objs.size = some _ := up3 _ _ (Heap.get?_push_size _ rfl)
  have g2 : (zm5 s.heap l1 l2).get? (zm1 s.heap l1).objs.size = some _ := up2 _ _ (Heap.get?_push_size _ rfl)
  have g1 : (zm5 s.heap l1 l2).get? s.heap.objs.size = some _ := up1 _ _ (Heap.get?_push_size _ rfl)
  show _ ∧ _
  rw [s2, s3, s4] at g5
  rw [s3] at g4
  rw [s1, s2] at g3
  rw [s1] at g2
  rw [s4]
  exact ⟨⟨_, g5, rfl⟩, h _ _ rfl g5 g3 g4 ⟨_, g1, rfl, rfl⟩ ⟨_, g2, rfl, rfl⟩ fun c o e => up1 c o (Heap.get?_push_of_some _ e)⟩
end Y
/-! # Z16 -/
set_option Elab.async false
set_option linter.all false
set_option maxRecDepth 100000
set_option maxHeartbeats 4000000
namespace Y
open PySem PySem.Spec PyProof.Rows L2
/-! ### zip of a tuple and a list, as a loop -/
def Izm (K : PySem.W.Frag) (a b : Addr) : It :=
  ⟨fun i H => ∃ (xs ys : List V) (x y : V), SqT K H a xs ∧ SqL K H b ys ∧ xs[i]? = some x ∧ ys[i]? = some y,
    fun i H v H' => ∃ T x y, v = .ref T ∧ H T = none ∧ H' = upd H T (.tup [x, y]) ∧ (∀ xs, SqT K H a xs → xs[i]? = some x) ∧ ∀ ys, SqL K H b ys → ys[i]? = some y,
    fun i H => ∃ xs : List V, SqT K H a xs ∧ xs.length ≤ i⟩
theorem lt_off {a n : Nat} (h : a < n) (j : Nat) : a ≠ n + j := by omega
theorem turn_zm {P : Program} {w : World} {K : PySem.W.Frag} {elts : List Expr} {kk : Nat} {tpos : Pos} {a b n : Addr} (la : a < n) (lb : b < n) :
    Turn P w K (.Tuple elts kk tpos) (Izm K a b) [n + 4, n + 2, n + 3, n, n + 1] (n + 4) (fun i h => IsZip h (n + 4) (n + 2) (n + 3) .none ∧ IsPair h (n + 2) (.ref n) (.ref (n + 1)) ∧ (∃ x y, IsPair h (n + 3) x y) ∧ h.IsTupleIter n a i ∧ h.IsListIter (n + 1) b i) where
  mem := by simp
  obj := fun i h st c hc => by
    obtain ⟨hz, hI, ⟨x, y, hO⟩, ⟨o1, e1, _, d1⟩, ⟨o2, e2, _, d2⟩⟩ := st
    have e' : c = n + 4 ∨ c = n + 2 ∨ c = n + 3 ∨ c = n ∨ c = n + 1 := by simpa using hc
    rcases e' with rfl | rfl | rfl | rfl | rfl
    · exact ⟨_, hz, fun v q => nomatch q⟩
    · exact ⟨_, hI, fun v q => nomatch q⟩
    · exact ⟨_, hO, fun v q => nomatch q⟩
    · exact ⟨o1, e1, fun v q => by rw [d1] at q; cases q⟩
    · exact ⟨o2, e2, fun v q => by rw [d2] at q; cases q⟩
  keep := fun i h h' st k => by
    obtain ⟨hz, hI, ⟨x, y, hO⟩, h1, h2⟩ := st
    exact ⟨k _ (by simp) _ hz, k _ (by simp) _ hI, ⟨x, y, k _ (by simp) _ hO⟩, h1.at fun o q => k n (by simp) o q, h2.at fun o q => k (n + 1) (by simp) o q⟩
  item := by
    intro X hP hw hK hc i pins s σ H E I hf st hg
    subst hP hw hK
    obtain ⟨hz, hI, ⟨x0, y0, hO⟩, h1, h2⟩ := st
    obtain ⟨xs, ys, x, y, hx, hy, ex, ey⟩ := hg
    obtain ⟨us, ru, p1, _⟩ := I.tuple hx
    obtain ⟨vs, rv, p2, _⟩ := I.list hy
    obtain ⟨u, eu, qu⟩ := ru.get ex
    obtain ⟨v, ev, qv⟩ := rv.get ey
    have zlt : n + 4 < s.heap.objs.size := Heap.lt_size hz
    have nn : Ap (n + 4) (n + 2) (n + 3) n (n + 1) := by constructor <;> exact fun q => by have q : _ = (_ : Nat) := q; omega
    refine zip_pick (x := u) (y := v) (G1 := fun h => h.IsTupleIter n a (i + 1)) (G2 := fun h => h.IsListIter (n + 1) b (i + 1)) nn hz hI hO (fun A E t Q k g => ?_) (fun A E t Q k g => ?_) (fun h h' q k => q.at fun o e => k n o ?_ e) (fun h h' q k => q.at fun o e => k (n + 1) o ?_ e) fun h' z' o' a1 a2 T' kk => ⟨_, rfl, wpAny_letOwnedTupleGo_zip (s := { s with heap := h' }) z' fun h2' z2 sb => ?_⟩
    · refine RZ.nextOf_tuple_item (l := a) (i := i) (items := us.toArray) (h1.at fun o e => k n o ?_ e) ?_ (by simpa using eu) g
      · simp only [List.mem_cons, List.not_mem_nil, or_false]; intro q; rcases q with q | q <;> (have q : _ = (_ : Nat) := q; omega)
      · obtain ⟨o, ho, r⟩ := p1
        refine ⟨o, k a o ?_ ho, r⟩
        simp only [List.mem_cons, List.not_mem_nil, or_false]; intro q; rcases q with q | q <;> first | exact lt_off la _ q | exact Nat.ne_of_lt la q
    · refine wpAny_nextOf_list_item (l := b) (i := i) (items := vs.toArray) (h2.at fun o e => k (n + 1) o ?_ e) ?_ (by simpa using ev) g
      · simp only [List.mem_cons, List.not_mem_nil, or_false]; intro q; rcases q with q | q | q <;> (have q : _ = (_ : Nat) := q; omega)
      · obtain ⟨o, ho, r⟩ := p2.isList
        refine ⟨o, k b o ?_ ho, r⟩
        simp only [List.mem_cons, List.not_mem_nil, or_false]; intro q; rcases q with q | q | q <;> first | exact lt_off lb _ q | exact Nat.ne_of_lt lb q
    · simp only [List.mem_cons, List.not_mem_nil, or_false]; intro q; rcases q with q | q | q <;> (have q : _ = (_ : Nat) := q; omega)
    · simp only [List.mem_cons, List.not_mem_nil, or_false]; intro q; rcases q with q | q <;> (have q : _ = (_ : Nat) := q; omega)
    · have t2 : h2'.get? s.heap.objs.size = some { cls := .type "tuple", data := .seq #[u, v] } := (sb.2 _ (Nat.ne_of_gt zlt)).trans T'
      have fresh : ObjOk X.prog X.w (upd H s.heap.objs.size (.tup [x, y])) h2' s.heap.objs.size (.tup [x, y]) := ⟨by show 2 ≤ sizeLine; decide, [u, v], .cons qu (.cons qv .nil), ⟨_, t2, rfl, _, rfl⟩⟩
      have I1 : Inv X pins σ (upd H s.heap.objs.size (.tup [x, y])) { s with heap := h2' } :=
        I.turnedNew (t' := s.toks) (ch := [n + 4, n + 2, n + 3, n, n + 1]) (fun c o hb q => (sb.2 c (fun q' => hb (by simp [q']))).trans (kk c o (fun q' => hb (by simp at q' ⊢; rcases q' with q' | q' | q' | q' <;> simp [q'])) q)) hf (Nat.le_refl _) fresh
      refine ⟨.ref s.heap.objs.size, _, I1, rfl, ⟨_, x, y, rfl, I.hok.fresh (Nat.le_refl _), rfl, fun l hl => by rw [I.tuple_inj hl hx]; exact ex, fun l hl => by rw [I.list_inj hl hy]; exact ey⟩, ⟨z2, ?_, ⟨u, v, ?_⟩, ?_, ?_⟩, fun c hcm => ?_⟩
      · exact (sb.2 _ (fun q => by have q : _ = (_ : Nat) := q; omega)).trans (kk _ _ (by simp only [List.mem_cons, List.not_mem_nil, or_false]; intro q; rcases q with q | q | q | q <;> (have q : _ = (_ : Nat) := q; omega)) hI)
      · exact (sb.2 _ (fun q => by have q : _ = (_ : Nat) := q; omega)).trans o'
      · exact a1.at fun o q => (sb.2 _ (fun q => by have q : _ = (_ : Nat) := q; omega)).trans q
      · exact a2.at fun o q => (sb.2 _ (fun q => by have q : _ = (_ : Nat) := q; omega)).trans q
      · have hlt : c < s.heap.objs.size := by
          have e' : c = n + 4 ∨ c = n + 2 ∨ c = n + 3 ∨ c = n ∨ c = n + 1 := by simpa using hcm
          have zl : (n + 4 : Nat) < s.heap.objs.size := zlt
          show (c : Nat) < s.heap.objs.size
          rcases e' with rfl | rfl | rfl | rfl | rfl
          · exact zl
          · exact Nat.lt_trans (Nat.add_lt_add_left (show 2 < 4 by decide) n) zl
          · exact Nat.lt_trans (Nat.add_lt_add_left (show 3 < 4 by decide) n) zl
          · exact Nat.lt_of_le_of_lt (Nat.le_add_right _ 4) zl
          · exact Nat.lt_trans (Nat.add_lt_add_left (show 1 < 4 by decide) n) zl
        rw [upd_ne (Nat.ne_of_lt hlt)]
        exact (hf c hcm).1
  done := by
    intro X hP hw hK hc i pins s σ H E I hf st hg
    subst hP hw hK
    obtain ⟨hz, hI, ⟨x0, y0, hO⟩, h1, h2⟩ := st
    obtain ⟨xs, hx, hend⟩ := hg
    obtain ⟨us, ru, p1, _⟩ := I.tuple hx
    have l1 := ru.length
    exact zip_none (I.ok.hd hc) (fun q => by have q : _ = (_ : Nat) := q; omega) (lt_off la _) hz hI h1 p1 (by simp; omega) fun h' k => ⟨rfl, I.turnedL (t' := s.toks) (ch := [n + 4, n + 2, n + 3, n, n + 1]) (fun c o hb q => k c o (fun q' => hb (by simp at q' ⊢; rcases q' with q' | q' <;> simp [q'])) q) hf⟩
  self := fun A i s Q E st h => wpAny_pyIter_zip st.1 h
def iZm (K : PySem.W.Frag) (ta : TA) : TI := fun σ H R => ta σ H fun vs H1 => ∃ a b xs ys, vs = [.ref a, .ref b] ∧ SqT K H1 a xs ∧ SqL K H1 b ys ∧ R (Izm K a b) H1
theorem pi_zm {X : Cx} {e e2 : Expr} {ta : TA} {p pos tpos : Pos} {elts : List Expr} {kk : Nat} (hg : Gl X "zip") (hm : X.mg "zip" = none) (ha : PA X [e, e2] ta)
    (hs : starEach [e, e2] X.env = (false, eval e X.env) :: starEach [e2] X.env := by rfl) (hpl : (backTo pos (starEach [e2] X.env)).any (·.1) = false := by rfl) :
    PI X (.Tuple elts kk tpos) (.Call (.Name "zip" p) [e, e2] [] pos) (iZm X.K ta) := by
  refine ⟨fun pins s σ H R I h => Call_ (ld_blt I hg hm PyProof.Rows.boot_zip (PyProof.Rows.callWith_type1 (thn (ha.run pos pins s σ H _ I h) fun us s1 ⟨vs, H1, I1, r1, q1⟩ => ?_) hs hpl))⟩
  obtain ⟨a, b, xs, ys, rfl, hx, hy, q⟩ := q1
  cases r1 with
  | cons r rr =>
    cases rr with
    | cons r' rr =>
      cases rr
      cases r
      cases r'
      obtain ⟨us, ru, p1, _⟩ := I1.tuple hx
      obtain ⟨vs, rv, p2, _⟩ := I1.list hy
      have la : a < s1.heap.objs.size := by
        obtain ⟨o, ho, _⟩ := id p1
        exact Heap.lt_size ho
      refine zip_call (show s1.heap.IsTuple a us.toArray from p1) p2.isList fun h' n en hz hI hO h1 h2 k => wpAny_pyIter_zip hz ?_
      subst en
      have I2 : Inv X pins σ H1 { s1 with heap := h' } := I1.kept (t' := s1.toks) k
      refine ⟨s1.heap.objs.size + 4, [s1.heap.objs.size + 4, s1.heap.objs.size + 2, s1.heap.objs.size + 3, s1.heap.objs.size, s1.heap.objs.size + 1], _, _, H1, rfl, I2, turn_zm la p2.lt, ⟨hz, hI, ⟨_, _, hO⟩, h1, h2⟩, fun c hcm => ?_, q⟩
      have hle : s1.heap.objs.size ≤ c := by
        have e' : c = s1.heap.objs.size + 4 ∨ c = s1.heap.objs.size + 2 ∨ c = s1.heap.objs.size + 3 ∨ c = s1.heap.objs.size ∨ c = s1.heap.objs.size + 1 := by simpa using hcm
        rcases e' with z | z | z | z | z <;> rw [z]
        · exact Nat.le_add_right _ _
        · exact Nat.le_add_right _ _
        · exact Nat.le_add_right _ _
        · exact Nat.le_refl _
        · exact Nat.le_add_right _ _
      exact I1.fpOk hle (I1.hok.fresh hle)
section
variable {X : Cx} {B : Bx} {F : Hp} {e e2 : Expr}
theorem wk_zm {a b : Addr} {vs ws : List V} {ds es : List D} (h : F a = some (.tup vs)) (g : F b = some (.lst ws)) (r : RpLX X.kx B F ds vs) (r2 : RpLX X.kx B F es ws) (hl : ds.length = es.length) : Wk X.kx B (Izm X.K a b) (zipD ds es) F where
  go := fun F1 H1 i s1 s2 hi => by
    rw [zipD_len, ← RpL.length r, ← RpL.length r2] at hi
    exact ⟨vs, ws, vs[i]'(by omega), ws[i]'(by omega), .inl (.inl (s2 _ _ (s1 _ _ h))), .inl (.inl (s2 _ _ (s1 _ _ g))), by simp [show i < vs.length by omega], by simp [show i < ws.length by omega]⟩
  stop := fun F1 H1 s1 s2 => ⟨vs, .inl (.inl (s2 _ _ (s1 _ _ h))), by rw [zipD_len, RpL.length r]; omega⟩
  yld := fun F1 H1 i x H2 d s1 s2 k hd y => by
    obtain ⟨u, z, e1, e2, rfl⟩ := zipD_get hd
    obtain ⟨v, ev, q⟩ := RpL.get r e1
    obtain ⟨w, ew, q2⟩ := RpL.get r2 e2
    obtain ⟨T, p1, p2, rfl, nT, rfl, y1, y2⟩ := y
    have h1 := y1 vs (.inl (.inl (s2 _ _ (s1 _ _ h))))
    have h2 := y2 ws (.inl (.inl (s2 _ _ (s1 _ _ g))))
    rw [ev] at h1
    rw [ew] at h2
    cases h1
    cases h2
    exact pair_lay s2 k nT (Rp.mono s1 _ _ q) (Rp.mono s1 _ _ q2)
def dZipM : List D → R (List D)
  | [.tup ds, .lst es] => R.grd (ds.length = es.length) (.ok (zipD ds es))
  | _ => .stuck
theorem ci_zipM {p pos tpos : Pos} {elts : List Expr} {kk : Nat} {ma : Rho → R (List D)} (hm : X.mg "zip" = none) (ha : PA X [e, e2] (yA X.kx B ma)) (hg : Gl X "zip" := by rfl) (hs : starEach [e, e2] X.env = (false, eval e X.env) :: starEach [e2] X.env := by rfl) (hpl : (backTo pos (starEach [e2] X.env)).any (·.1) = false := by rfl) :
    PI X (.Tuple elts kk tpos) (.Call (.Name "zip" p) [e, e2] [] pos) (yI X.kx B (mArgs dZipM ma)) := pi_imp (pi_zm hg hm ha hs hpl) fun σ H T ⟨F, ρ, ok, q⟩ => seqA ok q fun ds F' H' vs e1 r q1 => by
  have k := ok.step e1
  unfold dZipM at q1
  split at q1
  · obtain ⟨hl, q1⟩ := R.all_grd.mp q1
    unfold RpLX RpL at r
    obtain ⟨v, r', rfl, r1, r2⟩ := r
    unfold RpL at r2
    obtain ⟨w, r'', rfl, r3, r4⟩ := r2
    unfold RpL at r4
    subst r4
    unfold Rp at r1 r3
    obtain ⟨a, us, rfl, h1, l1⟩ := r1
    obtain ⟨b, ws, rfl, h2, l2⟩ := r3
    exact ⟨a, b, us, ws, rfl, .inl (.inl (k.fh _ _ h1)), .inl (.inl (k.fh _ _ h2)), q1 F' H' _ e1 (wk_zm h1 h2 l1 l2 hl)⟩
  · exact q1.elim
end
end Y
/-! # GA -/
set_option Elab.async false
set_option linter.all false
set_option maxRecDepth 100000
set_option maxHeartbeats 4000000
namespace Y
open PySem PySem.Spec L2
namespace K05
def top (i : Nat) : Stmt := PySem.Challenge.pw_eitheronce_k05_products_and_subfields.main.body.getD i (.Pass ⟨0, 0, 0, 0⟩)
/-- built-in names that the text leaves alone -/
structure Bi (P : Program) (K : PySem.W.Frag) (mg : Str → Option Value) where
  b_abs : mg "abs" = none
  b_all : mg "all" = none
  b_bool : mg "bool" = none
  b_enumerate : mg "enumerate" = none
  b_int : mg "int" = none
  b_isinstance : mg "isinstance" = none
  b_len : mg "len" = none
  b_list : mg "list" = none
  b_max : mg "max" = none
  b_range : mg "range" = none
  b_repr : mg "repr" = none
  b_reversed : mg "reversed" = none
  b_sorted : mg "sorted" = none
  b_tuple : mg "tuple" = none
  b_zip : mg "zip" = none
  u_MOST_STATES : Value
  k_MOST_STATES : mg "MOST_STATES" = some u_MOST_STATES ∧ RelV (.int 49) u_MOST_STATES
  c_Field : ClsY ⟨K, mg⟩ 0
abbrev f_l_any : List D → R D := f_any
/-- the law's body behind its first statement -/
def TailOk (P : Program) (w : World) (K : PySem.W.Frag) (mg : Str → Option Value) (base : Heap) (N : List Str) (qual : Str) (st : Stmt) (k : Nat) (mb : Rho → R Out) : Prop :=
  ∀ (f : Addr) (cdv : Value) (A : Around) (outer : List Env) (s : Shared) (H : Hp) (E : XK) (B : Bx), RG k (cxF P w K mg base N qual (defScope st) f cdv A outer s H E).A → Takes (cxF P w K mg base N qual (defScope st) f cdv A outer s H E) B.W →
    PassesOwn (model P w) (cxF P w K mg base N qual (defScope st) f cdv A outer s H E).A (cxF P w K mg base N qual (defScope st) f cdv A outer s H E).env (cxF P w K mg base N qual (defScope st) f cdv A outer s H E).xe →
    PSs (cxF P w K mg base N qual (defScope st) f cdv A outer s H E) (defBody st).tail (yS ⟨K, mg⟩ B mb)
/-! ## the deal: its draw, its making -/
abbrev s_l_any : Stmt := top 33
abbrev n_l_any : List Str := ["_law_deal_here", "_law_bound", "_law_rest_here"]
theorem sc_l_any : FnScope n_l_any ["_law_deal_here", "_law_bound"] (defScope s_l_any) := ⟨rfl, rfl, rfl, by decide +kernel, rfl, by decide +kernel, by decide +kernel⟩
abbrev s_l_deal : Stmt := top 32
abbrev n_l_deal : List Str := ["_law_script", "_law_base", "_law_cells", "_law_mix", "_law_cell"]
theorem sc_l_deal : FnScope n_l_deal ["_law_script", "_law_base"] (defScope s_l_deal) := ⟨rfl, rfl, rfl, by decide +kernel, rfl, by decide +kernel, by decide +kernel⟩
section
variable {P : Program} {w : World} {K : PySem.W.Frag} {mg : Str → Option Value} {base : Heap}
set_option maxRecDepth 100000 in
set_option maxHeartbeats 8000000 in
theorem a_any (T : Bi P K mg) (f : Addr) (cdv : Value) (A : Around) (outer : List Env) (s : Shared) (H : Hp) (E : XK) (hr : RG 0 (cxF P w K mg base n_l_any "_law_any" (defScope s_l_any) f cdv A outer s H E).A)
    (pf : PassesOwn (model P w) (cxF P w K mg base n_l_any "_law_any" (defScope s_l_any) f cdv A outer s H E).A (cxF P w K mg base n_l_any "_law_any" (defScope s_l_any) f cdv A outer s H E).env (cxF P w K mg base n_l_any "_law_any" (defScope s_l_any) f cdv A outer s H E).xe) :
    PSs (cxF P w K mg base n_l_any "_law_any" (defScope s_l_any) f cdv A outer s H E) (defBody s_l_any) (tAny K) := by
  have nd := sc_l_any.nd
  have hu := hr.room.units
  exact pss_cons (ps_while pf (PW.pt (pw_and (pt_cmpR (op_neD hu) (pe_ix ix_list (pv 0) pe_int (fun _ _ => rfl)) (pe_lst pa_nil) (nomark _)) (pw_and1 (pt_cmpR (op_eqD hu) (pe_ix ix_list (pe_ix ix_list (pv 0) pe_int (fun _ _ => rfl)) (pe_un un_neg pe_int) (fun _ _ => rfl)) pe_int (nomark _)))))
      (pss_one (ps_expr (pe_bm0 PySem.F.plainAttrs_list PySem.F.slot_list_pop PySem.F.type_list_pop mt_pop (pe_ix ix_list (pv 0) pe_int (fun _ _ => rfl))))))
    (pss_cons (ps_if (pt_cmpR (op_neD hu) (pe_ix ix_list (pv 0) pe_int (fun _ _ => rfl)) (pe_lst pa_nil) (nomark _))
      (pss_cons (ps_set (i := 2) nd rfl (.inl rfl) (pe_callTy call_int1 (by rfl) T.b_int (by decide +kernel) (pa_cons (pe_bm0 PySem.F.plainAttrs_list PySem.F.slot_list_pop PySem.F.type_list_pop mt_pop (pe_ix ix_list (pv 0) pe_int (fun _ _ => rfl))) pa_nil)))
        (pss_cons (ps_expr (pe_bm PySem.F.plainAttrs_list PySem.F.slot_list_append PySem.F.type_list_append mt_append (pe_ix ix_list (pv 0) pe_int (fun _ _ => rfl)) (pa_cons (pe_op op_fdivW (pv 2) (pv 1)) pa_nil)))
          (pss_one (ps_ret (pe_op op_mod (pv 2) (pv 1)))))) pss_nil)
    (pss_cons (ps_asg (pe_op op_mod (pe_callTy call_int1 (by rfl) T.b_int (by decide +kernel) (pa_cons (pe_op op_add (pe_op op_mul (pe_ix ix_list (pv 0) pe_int (fun _ _ => rfl)) pe_int) pe_int) pa_nil)) pe_int) (pg_sub (pv 0) pe_int set_list))
      (pss_one (ps_ret (pe_op op_mod (pe_callTy call_int1 (by rfl) T.b_int (by decide +kernel) (pa_cons (pe_op op_fdivW (pe_ix ix_list (pv 0) pe_int (fun _ _ => rfl)) pe_int) pa_nil)) (pv 1))))))
set_option maxRecDepth 100000 in
set_option maxHeartbeats 8000000 in
theorem a_deal (T : Bi P K mg) (f : Addr) (cdv : Value) (A : Around) (outer : List Env) (s : Shared) (H : Hp) (E : XK) (B : Bx) (hr : RG 0 (cxF P w K mg base n_l_deal "_law_deal" (defScope s_l_deal) f cdv A outer s H E).A)
    (tk : Takes (cxF P w K mg base n_l_deal "_law_deal" (defScope s_l_deal) f cdv A outer s H E) B.W)
    (pf : PassesOwn (model P w) (cxF P w K mg base n_l_deal "_law_deal" (defScope s_l_deal) f cdv A outer s H E).A (cxF P w K mg base n_l_deal "_law_deal" (defScope s_l_deal) f cdv A outer s H E).env (cxF P w K mg base n_l_deal "_law_deal" (defScope s_l_deal) f cdv A outer s H E).xe) :
    PSs (cxF P w K mg base n_l_deal "_law_deal" (defScope s_l_deal) f cdv A outer s H E) (defBody s_l_deal) (tDeal ⟨K, mg⟩ B) := by
  have nd := sc_l_deal.nd
  exact pss_cons (ps_setLc (i := 2) (own := ([("_law_cell", 4)] : List (Str × Nat))) rfl nd rfl rfl (sw_true rfl rfl rfl (by decide +kernel)) (pi_both (pe_slice sl_list (pv 0) po_none (po_some pe_int))) (blkOk_by (N := n_l_deal) (sc := defScope s_l_deal) (by decide +kernel))
      (fun _ _ _ _ _ => (cg_name 4 nd)) (fun _ _ _ _ _ => ct_yes) (fun _ _ _ _ _ => (ce_abs (cab_cons (cb (ce_intc (cab_cons (cb_v 4) cab_nil) T.b_int)) cab_nil) T.b_abs)))
    (pss_cons (cs_set 3 nd (ce_add (cb (ce_mul (cb ce_int) (cb_v 1))) (cb ce_int)))
    (pss_cons (cs_for (ws := [4]) pf rfl (ci_seq (ce_v 2)) (cg_name 4 nd) (css_one (cs_set 3 nd (ce_mod (cb (ce_intc (cab_cons (cb (ce_add (cb (ce_add (cb (ce_mul (cb_v 3) (cb ce_int))) (cb (ce_mod (cb_v 4) (cb ce_int))))) (cb ce_int))) cab_nil) T.b_int)) (cb ce_int)))))
    (pss_one (ps_ret (pe_lst (pa_cons (co_rev (cb (ce_frz (co_lc rfl nd ([("_law_cell", 4)] : List (Str × Nat)) (ci_seq (ce_v 2)) (blkOk_by (N := n_l_deal) (sc := defScope s_l_deal) (by decide +kernel)) (fun _ _ _ _ _ => (cg_name 4 nd)) (fun _ _ _ _ _ => (pts_one (ct_ge (cb_v 4) (cb (ce_pow (cb ce_int) (cb ce_int)))))) (fun _ _ _ _ _ => (ce_v 4)))))) (pa_cons (ce_v 3) pa_nil)))))))
end
/-! ## _law_of: 0 _law_deal_here, 1 _law_some -/
abbrev s_l_of : Stmt := top 34
abbrev n_l_of : List Str := ["_law_deal_here", "_law_some"]
theorem sc_l_of : FnScope n_l_of ["_law_deal_here", "_law_some"] (defScope s_l_of) := ⟨rfl, rfl, rfl, by decide +kernel, rfl, by decide +kernel, by decide +kernel⟩
def f_l_of_b : Rho → R Out := (mRet (mBin dIx (mVarB 1) (mCall 2 f_l_any (mCons (mVar 0) (mCons (mBi dLen (mCons (mVarB 1) mNil)) mNil)))))
def f_l_of : List D → R D := mFun 2 2 f_l_of_b
set_option maxRecDepth 100000 in
set_option maxHeartbeats 8000000 in
theorem b_l_of {P : Program} {w : World} {K : PySem.W.Frag} {mg : Str → Option Value} {base : Heap} (T : Bi P K mg) (G_l_any : Cal P w K mg base 1 "_law_any" 2 f_l_any) : BodyOk P w K mg base n_l_of "_law_of" s_l_of 1 f_l_of_b := fun f cdv A outer s H E B hr tk pf => by
  have nd := sc_l_of.nd
  exact (css_one (cs_ret (ce_ix (cb_v 1) (cb (ce_call G_l_any hr (by decide) tk (ca_cons (ce_v 0) (ca_cons (ce_len (cab_cons (cb_v 1) cab_nil) T.b_len) ca_nil)))))))

/-! ## _law_size: 0 _law_deal_here, 1 _law_small, 2 _law_great -/
abbrev s_l_size : Stmt := top 39
abbrev n_l_size : List Str := ["_law_deal_here", "_law_small", "_law_great"]
theorem sc_l_size : FnScope n_l_size ["_law_deal_here"] (defScope s_l_size) := ⟨rfl, rfl, rfl, by decide +kernel, rfl, by decide +kernel, by decide +kernel⟩
def f_l_size_b : Rho → R Out := (mSeq (mSet 1 (mFrz (mLst (mCons (mTup (mCons (mC (.int 2)) (mCons (mC (.int 1)) mNil))) (mCons (mTup (mCons (mC (.int 3)) (mCons (mC (.int 1)) mNil))) (mCons (mTup (mCons (mC (.int 2)) (mCons (mC (.int 2)) mNil))) (mCons (mTup (mCons (mC (.int 5)) (mCons (mC (.int 1)) mNil))) (mCons (mTup (mCons (mC (.int 7)) (mCons (mC (.int 1)) mNil))) (mCons (mTup (mCons (mC (.int 2)) (mCons (mC (.int 3)) mNil))) (mCons (mTup (mCons (mC (.int 3)) (mCons (mC (.int 2)) mNil))) (mCons (mTup (mCons (mC (.int 2)) (mCons (mC (.int 2)) mNil))) (mCons (mTup (mCons (mC (.int 3)) (mCons (mC (.int 2)) mNil))) (mCons (mTup (mCons (mC (.int 2)) (mCons (mC (.int 3)) mNil))) (mCons (mTup (mCons (mC (.int 11)) (mCons (mC (.int 1)) mNil))) (mCons (mTup (mCons (mC (.int 13)) (mCons (mC (.int 1)) mNil))) (mCons (mTup (mCons (mC (.int 2)) (mCons (mC (.int 4)) mNil))) mNil)))))))))))))))) (mSeq (mSet 2 (mFrz (mLst (mCons (mTup (mCons (mC (.int 5)) (mCons (mC (.int 2)) mNil))) (mCons (mTup (mCons (mC (.int 3)) (mCons (mC (.int 3)) mNil))) (mCons (mTup (mCons (mC (.int 2)) (mCons (mC (.int 5)) mNil))) (mCons (mTup (mCons (mC (.int 7)) (mCons (mC (.int 2)) mNil))) (mCons (mTup (mCons (mC (.int 17)) (mCons (mC (.int 1)) mNil))) (mCons (mTup (mCons (mC (.int 19)) (mCons (mC (.int 1)) mNil))) (mCons (mTup (mCons (mC (.int 23)) (mCons (mC (.int 1)) mNil))) (mCons (mTup (mCons (mC (.int 29)) (mCons (mC (.int 1)) mNil))) (mCons (mTup (mCons (mC (.int 31)) (mCons (mC (.int 1)) mNil))) (mCons (mTup (mCons (mC (.int 37)) (mCons (mC (.int 1)) mNil))) (mCons (mTup (mCons (mC (.int 41)) (mCons (mC (.int 1)) mNil))) (mCons (mTup (mCons (mC (.int 43)) (mCons (mC (.int 1)) mNil))) (mCons (mTup (mCons (mC (.int 47)) (mCons (mC (.int 1)) mNil))) mNil)))))))))))))))) (mRet (mIfE (mTb (mBin dEq (mCall 2 f_l_any (mCons (mVar 0) (mCons (mC (.int 6)) mNil))) (mC (.int 5)))) (mCall 2 f_l_of (mCons (mVar 0) (mCons (mVar 2) mNil))) (mCall 2 f_l_of (mCons (mVar 0) (mCons (mVar 1) mNil)))))))
def f_l_size : List D → R D := mFun 3 1 f_l_size_b
set_option maxRecDepth 100000 in
set_option maxHeartbeats 8000000 in
theorem b_l_size {P : Program} {w : World} {K : PySem.W.Frag} {mg : Str → Option Value} {base : Heap} (T : Bi P K mg) (G_l_any : Cal P w K mg base 1 "_law_any" 2 f_l_any) (G_l_of : Cal P w K mg base 2 "_law_of" 2 f_l_of) : BodyOk P w K mg base n_l_size "_law_size" s_l_size 2 f_l_size_b := fun f cdv A outer s H E B hr tk pf => by
  have nd := sc_l_size.nd
  exact (css_cons (cs_set 1 nd (ce_frz (co_lst (ca_cons (ce_tup (ca_cons ce_int (ca_cons ce_int ca_nil))) (ca_cons (ce_tup (ca_cons ce_int (ca_cons ce_int ca_nil))) (ca_cons (ce_tup (ca_cons ce_int (ca_cons ce_int ca_nil))) (ca_cons (ce_tup (ca_cons ce_int (ca_cons ce_int ca_nil))) (ca_cons (ce_tup (ca_cons ce_int (ca_cons ce_int ca_nil))) (ca_cons (ce_tup (ca_cons ce_int (ca_cons ce_int ca_nil))) (ca_cons (ce_tup (ca_cons ce_int (ca_cons ce_int ca_nil))) (ca_cons (ce_tup (ca_cons ce_int (ca_cons ce_int ca_nil))) (ca_cons (ce_tup (ca_cons ce_int (ca_cons ce_int ca_nil))) (ca_cons (ce_tup (ca_cons ce_int (ca_cons ce_int ca_nil))) (ca_cons (ce_tup (ca_cons ce_int (ca_cons ce_int ca_nil))) (ca_cons (ce_tup (ca_cons ce_int (ca_cons ce_int ca_nil))) (ca_cons (ce_tup (ca_cons ce_int (ca_cons ce_int ca_nil))) ca_nil)))))))))))))))) (css_cons (cs_set 2 nd (ce_frz (co_lst (ca_cons (ce_tup (ca_cons ce_int (ca_cons ce_int ca_nil))) (ca_cons (ce_tup (ca_cons ce_int (ca_cons ce_int ca_nil))) (ca_cons (ce_tup (ca_cons ce_int (ca_cons ce_int ca_nil))) (ca_cons (ce_tup (ca_cons ce_int (ca_cons ce_int ca_nil))) (ca_cons (ce_tup (ca_cons ce_int (ca_cons ce_int ca_nil))) (ca_cons (ce_tup (ca_cons ce_int (ca_cons ce_int ca_nil))) (ca_cons (ce_tup (ca_cons ce_int (ca_cons ce_int ca_nil))) (ca_cons (ce_tup (ca_cons ce_int (ca_cons ce_int ca_nil))) (ca_cons (ce_tup (ca_cons ce_int (ca_cons ce_int ca_nil))) (ca_cons (ce_tup (ca_cons ce_int (ca_cons ce_int ca_nil))) (ca_cons (ce_tup (ca_cons ce_int (ca_cons ce_int ca_nil))) (ca_cons (ce_tup (ca_cons ce_int (ca_cons ce_int ca_nil))) (ca_cons (ce_tup (ca_cons ce_int (ca_cons ce_int ca_nil))) ca_nil)))))))))))))))) (css_one (cs_ret (ce_if (ct_eq hr.room.units (cb (ce_call G_l_any hr (by decide) tk (ca_cons (ce_v 0) (ca_cons ce_int ca_nil)))) (cb ce_int)) (ce_call G_l_of hr (by decide) tk (ca_cons (ce_v 0) (ca_cons (ce_v 2) ca_nil))) (ce_call G_l_of hr (by decide) tk (ca_cons (ce_v 0) (ca_cons (ce_v 1) ca_nil))))))))

/-! ## _law_power: 0 _law_base, 1 _law_times_here, 2 _law_found, 3 _law_turn -/
abbrev s_l_power : Stmt := top 35
abbrev n_l_power : List Str := ["_law_base", "_law_times_here", "_law_found", "_law_turn"]
theorem sc_l_power : FnScope n_l_power ["_law_base", "_law_times_here"] (defScope s_l_power) := ⟨rfl, rfl, rfl, by decide +kernel, rfl, by decide +kernel, by decide +kernel⟩
def f_l_power_b : Rho → R Out := (mSeq (mSet 2 (mC (.int 1))) (mSeq (mFor (mArgs dRange1 (mCons (mVar 1) mNil)) (bName 3) (mSeq (mSet 2 (mBin dMul (mVarB 2) (mVarB 0))) (mNo 3 mSkip))) (mRet (mVar 2))))
def f_l_power : List D → R D := mFun 4 2 f_l_power_b
set_option maxRecDepth 100000 in
set_option maxHeartbeats 8000000 in
theorem b_l_power {P : Program} {w : World} {K : PySem.W.Frag} {mg : Str → Option Value} {base : Heap} (T : Bi P K mg) : BodyOk P w K mg base n_l_power "_law_power" s_l_power 0 f_l_power_b := fun f cdv A outer s H E B hr tk pf => by
  have nd := sc_l_power.nd
  exact (css_cons (cs_set 2 nd ce_int) (css_cons (cs_for (ws := [3]) pf rfl (ci_range1 T.b_range (ca_cons (ce_v 1) ca_nil)) (cg_name 3 nd) (css_cons (cs_set 2 nd (ce_mul (cb_v 2) (cb_v 0))) (css_no 3 css_nil))) (css_one (cs_ret (ce_v 2)))))

/-! ## _law_monic: 0 _law_p, 1 _law_degree, 2 _law_number_here, 3 _law_found, 4 _law_turn -/
abbrev s_l_monic : Stmt := top 36
abbrev n_l_monic : List Str := ["_law_p", "_law_degree", "_law_number_here", "_law_found", "_law_turn"]
theorem sc_l_monic : FnScope n_l_monic ["_law_p", "_law_degree", "_law_number_here"] (defScope s_l_monic) := ⟨rfl, rfl, rfl, by decide +kernel, rfl, by decide +kernel, by decide +kernel⟩
def f_l_monic_b : Rho → R Out := (mSeq (mOwn 3 (mLst mNil)) (mSeq (mFor (mArgs dRange1 (mCons (mVar 1) mNil)) (bName 4) (mSeq (mApp 3 (mBin dMod (mBi dInt (mCons (mVarB 2) mNil)) (mVarB 0))) (mSeq (mSet 2 (mBin dDiv (mVarB 2) (mVarB 0))) (mNo 4 mSkip)))) (mRet (mBin dAdd (mVarB 3) (mFrz (mLst (mCons (mC (.int 1)) mNil)))))))
def f_l_monic : List D → R D := mFun 5 3 f_l_monic_b
set_option maxRecDepth 100000 in
set_option maxHeartbeats 8000000 in
theorem b_l_monic {P : Program} {w : World} {K : PySem.W.Frag} {mg : Str → Option Value} {base : Heap} (T : Bi P K mg) : BodyOk P w K mg base n_l_monic "_law_monic" s_l_monic 0 f_l_monic_b := fun f cdv A outer s H E B hr tk pf => by
  have nd := sc_l_monic.nd
  exact (css_cons (cs_own 3 nd (co_lst ca_nil)) (css_cons (cs_for (ws := [4]) pf rfl (ci_range1 T.b_range (ca_cons (ce_v 1) ca_nil)) (cg_name 4 nd) (css_cons (cs_app 3 (pe_bm PySem.F.plainAttrs_list PySem.F.slot_list_append PySem.F.type_list_append mt_append (pv 3) (pa_cons (ce_mod (cb (ce_intc (cab_cons (cb_v 2) cab_nil) T.b_int)) (cb_v 0)) pa_nil))) (css_cons (cs_set 2 nd (ce_div (cb_v 2) (cb_v 0))) (css_no 4 css_nil)))) (css_one (cs_ret (ce_add (cb_v 3) (cb (ce_frz (co_lst (ca_cons ce_int ca_nil)))))))))

/-! ## _law_rest: 0 _law_p, 1 _law_one, 2 _law_other, 3 _law_many, 4 _law_rest_here, 5 _law_at, 6 _law_top, 7 _law_further -/
abbrev s_l_rest : Stmt := top 37
abbrev n_l_rest : List Str := ["_law_p", "_law_one", "_law_other", "_law_many", "_law_rest_here", "_law_at", "_law_top", "_law_further"]
theorem sc_l_rest : FnScope n_l_rest ["_law_p", "_law_one", "_law_other"] (defScope s_l_rest) := ⟨rfl, rfl, rfl, by decide +kernel, rfl, by decide +kernel, by decide +kernel⟩
def f_l_rest_b : Rho → R Out := (mSeq (mSet 3 (mBin dSub (mBi dLen (mCons (mVarB 2) mNil)) (mC (.int 1)))) (mSeq (mOwn 4 (mAddL (mFrz (mSeqL (mCons (mVarB 1) mNil))) (mBin dMul (mFrz (mLst (mCons (mC (.int 0)) mNil))) (mVarB 3)))) (mSeq (mFor (mArgs dRange3 (mCons (mBin dSub (mBi dLen (mCons (mVarB 4) mNil)) (mC (.int 1))) (mCons (mBin dSub (mVarB 3) (mC (.int 1))) (mCons (mBin dSub (mC (.int 0)) (mC (.int 1))) mNil)))) (bName 5) (mSeq (mSet 6 (mBin dIx (mVarB 4) (mVarB 5))) (mSeq (mFor (mArgs dRange1 (mCons (mBin dAdd (mVarB 3) (mC (.int 1))) mNil)) (bName 7) (mSeq (mStore 4 (mBin dMod (mBi dInt (mCons (mBin dSub (mBin dIx (mVarB 4) (mBin dAdd (mBin dSub (mVarB 5) (mVarB 3)) (mVarB 7))) (mBin dMul (mVarB 6) (mBin dIx (mVarB 2) (mVarB 7)))) mNil)) (mVarB 0)) (mBin dAdd (mBin dSub (mVarB 5) (mVarB 3)) (mVarB 7))) (mNo 7 mSkip))) (mNo 7 (mNo 6 (mNo 5 mSkip)))))) (mRet (mCut (mVarB 4) mNone (mPart (mVarB 3)))))))
def f_l_rest : List D → R D := mFun 8 3 f_l_rest_b
set_option maxRecDepth 100000 in
set_option maxHeartbeats 8000000 in
theorem b_l_rest {P : Program} {w : World} {K : PySem.W.Frag} {mg : Str → Option Value} {base : Heap} (T : Bi P K mg) : BodyOk P w K mg base n_l_rest "_law_rest" s_l_rest 0 f_l_rest_b := fun f cdv A outer s H E B hr tk pf => by
  have nd := sc_l_rest.nd
  exact (css_cons (cs_set 3 nd (ce_sub (cb (ce_len (cab_cons (cb_v 2) cab_nil) T.b_len)) (cb ce_int))) (css_cons (cs_own 4 nd (co_add (cb (ce_frz (co_list (cab_cons (cb_v 1) cab_nil) T.b_list))) (cb (ce_mul (cb (ce_frz (co_lst (ca_cons ce_int ca_nil)))) (cb_v 3))))) (css_cons (cs_for (ws := [5]) pf rfl (ci_range3 T.b_range (ca_cons (ce_sub (cb (ce_len (cab_cons (cb_v 4) cab_nil) T.b_len)) (cb ce_int)) (ca_cons (ce_sub (cb_v 3) (cb ce_int)) (ca_cons (ce_sub (cb ce_int) (cb ce_int)) ca_nil)))) (cg_name 5 nd) (css_cons (cs_set 6 nd (ce_ix (cb_v 4) (cb_v 5))) (css_cons (cs_for (ws := [7]) pf rfl (ci_range1 T.b_range (ca_cons (ce_add (cb_v 3) (cb ce_int)) ca_nil)) (cg_name 7 nd) (css_cons (cs_store 4 (ce_mod (cb (ce_intc (cab_cons (cb (ce_sub (cb (ce_ix (cb_v 4) (cb (ce_add (cb (ce_sub (cb_v 5) (cb_v 3))) (cb_v 7))))) (cb (ce_mul (cb_v 6) (cb (ce_ix (cb_v 2) (cb_v 7))))))) cab_nil) T.b_int)) (cb_v 0)) (pv 4) (cb (ce_add (cb (ce_sub (cb_v 5) (cb_v 3))) (cb_v 7)))) (css_no 7 css_nil))) (css_no 7 (css_no 6 (css_no 5 css_nil)))))) (css_one (cs_ret (ce_cut (cb_v 4) cp_none (cp_some (cb_v 3))))))))

/-! ## _law_is_prime: 0 _law_p, 1 _law_polynomial, 2 _law_degree, 3 _law_less, 4 _law_number_here -/
abbrev s_l_is_prime : Stmt := top 38
abbrev n_l_is_prime : List Str := ["_law_p", "_law_polynomial", "_law_degree", "_law_less", "_law_number_here"]
theorem sc_l_is_prime : FnScope n_l_is_prime ["_law_p", "_law_polynomial"] (defScope s_l_is_prime) := ⟨rfl, rfl, rfl, by decide +kernel, rfl, by decide +kernel, by decide +kernel⟩
def f_l_is_prime_b : Rho → R Out := (mSeq (mSet 2 (mBin dSub (mBi dLen (mCons (mVarB 1) mNil)) (mC (.int 1)))) (mSeq (mFor (mArgs dRange2 (mCons (mC (.int 1)) (mCons (mBin dAdd (mBin dDiv (mVarB 2) (mC (.int 2))) (mC (.int 1))) mNil))) (bName 3) (mSeq (mFor (mArgs dRange1 (mCons (mCall 2 f_l_power (mCons (mVar 0) (mCons (mVar 3) mNil))) mNil)) (bName 4) (mSeq (mIf (mTb (mBin dEq (mCall 3 f_l_rest (mCons (mVar 0) (mCons (mVar 1) (mCons (mCall 3 f_l_monic (mCons (mVar 0) (mCons (mVar 3) (mCons (mVar 4) mNil)))) mNil)))) (mBin dMul (mFrz (mLst (mCons (mC (.int 0)) mNil))) (mVarB 3)))) (mRet (mC (.bl false))) mSkip) (mNo 4 mSkip))) (mNo 4 (mNo 3 mSkip)))) (mRet (mBin dGt (mVarB 2) (mC (.int 0))))))
def f_l_is_prime : List D → R D := mFun 5 2 f_l_is_prime_b
set_option maxRecDepth 100000 in
set_option maxHeartbeats 8000000 in
theorem b_l_is_prime {P : Program} {w : World} {K : PySem.W.Frag} {mg : Str → Option Value} {base : Heap} (T : Bi P K mg) (G_l_monic : Cal P w K mg base 1 "_law_monic" 3 f_l_monic) (G_l_power : Cal P w K mg base 1 "_law_power" 2 f_l_power) (G_l_rest : Cal P w K mg base 1 "_law_rest" 3 f_l_rest) : BodyOk P w K mg base n_l_is_prime "_law_is_prime" s_l_is_prime 1 f_l_is_prime_b := fun f cdv A outer s H E B hr tk pf => by
  have nd := sc_l_is_prime.nd
  exact (css_cons (cs_set 2 nd (ce_sub (cb (ce_len (cab_cons (cb_v 1) cab_nil) T.b_len)) (cb ce_int))) (css_cons (cs_for (ws := [3]) pf rfl (ci_range2 T.b_range (ca_cons ce_int (ca_cons (ce_add (cb (ce_div (cb_v 2) (cb ce_int))) (cb ce_int)) ca_nil))) (cg_name 3 nd) (css_cons (cs_for (ws := [4]) pf rfl (ci_range1 T.b_range (ca_cons (ce_call G_l_power hr (by decide) tk (ca_cons (ce_v 0) (ca_cons (ce_v 3) ca_nil))) ca_nil)) (cg_name 4 nd) (css_cons (cs_if (ct_eq hr.room.units (cb (ce_call G_l_rest hr (by decide) tk (ca_cons (ce_v 0) (ca_cons (ce_v 1) (ca_cons (ce_call G_l_monic hr (by decide) tk (ca_cons (ce_v 0) (ca_cons (ce_v 3) (ca_cons (ce_v 4) ca_nil)))) ca_nil))))) (cb (ce_mul (cb (ce_frz (co_lst (ca_cons ce_int ca_nil)))) (cb_v 3)))) (css_one (cs_ret ce_bl)) css_nil) (css_no 4 css_nil))) (css_no 4 (css_no 3 css_nil)))) (css_one (cs_ret (ce_gt (cb_v 2) (cb ce_int))))))

/-! ## _law_modulus: 0 _law_deal_here, 1 _law_p, 2 _law_degree, 3 _law_many, 4 _law_start, 5 _law_step, 6 _law_found -/
abbrev s_l_modulus : Stmt := top 40
abbrev n_l_modulus : List Str := ["_law_deal_here", "_law_p", "_law_degree", "_law_many", "_law_start", "_law_step", "_law_found"]
theorem sc_l_modulus : FnScope n_l_modulus ["_law_deal_here", "_law_p", "_law_degree"] (defScope s_l_modulus) := ⟨rfl, rfl, rfl, by decide +kernel, rfl, by decide +kernel, by decide +kernel⟩
def f_l_modulus_b : Rho → R Out := (mSeq (mSet 3 (mCall 2 f_l_power (mCons (mVar 1) (mCons (mVar 2) mNil)))) (mSeq (mSet 4 (mCall 2 f_l_any (mCons (mVar 0) (mCons (mVar 3) mNil)))) (mSeq (mFor (mArgs dRange1 (mCons (mVar 3) mNil)) (bName 5) (mSeq (mSet 6 (mCall 3 f_l_monic (mCons (mVar 1) (mCons (mVar 2) (mCons (mBin dMod (mBi dInt (mCons (mBin dAdd (mVarB 4) (mVarB 5)) mNil)) (mVarB 3)) mNil))))) (mSeq (mIf (mTt (mCall 2 f_l_is_prime (mCons (mVar 1) (mCons (mVar 6) mNil)))) (mRet (mVar 6)) mSkip) (mNo 6 (mNo 5 mSkip))))) (mRet (mFrz (mLst (mCons (mC (.int 0)) (mCons (mC (.int 1)) mNil))))))))
def f_l_modulus : List D → R D := mFun 7 3 f_l_modulus_b
set_option maxRecDepth 100000 in
set_option maxHeartbeats 8000000 in
theorem b_l_modulus {P : Program} {w : World} {K : PySem.W.Frag} {mg : Str → Option Value} {base : Heap} (T : Bi P K mg) (G_l_any : Cal P w K mg base 1 "_law_any" 2 f_l_any) (G_l_is_prime : Cal P w K mg base 2 "_law_is_prime" 2 f_l_is_prime) (G_l_monic : Cal P w K mg base 1 "_law_monic" 3 f_l_monic) (G_l_power : Cal P w K mg base 1 "_law_power" 2 f_l_power) : BodyOk P w K mg base n_l_modulus "_law_modulus" s_l_modulus 2 f_l_modulus_b := fun f cdv A outer s H E B hr tk pf => by
  have nd := sc_l_modulus.nd
  exact (css_cons (cs_set 3 nd (ce_call G_l_power hr (by decide) tk (ca_cons (ce_v 1) (ca_cons (ce_v 2) ca_nil)))) (css_cons (cs_set 4 nd (ce_call G_l_any hr (by decide) tk (ca_cons (ce_v 0) (ca_cons (ce_v 3) ca_nil)))) (css_cons (cs_for (ws := [5]) pf rfl (ci_range1 T.b_range (ca_cons (ce_v 3) ca_nil)) (cg_name 5 nd) (css_cons (cs_set 6 nd (ce_call G_l_monic hr (by decide) tk (ca_cons (ce_v 1) (ca_cons (ce_v 2) (ca_cons (ce_mod (cb (ce_intc (cab_cons (cb (ce_add (cb_v 4) (cb_v 5))) cab_nil) T.b_int)) (cb_v 3)) ca_nil))))) (css_cons (cs_if (ct_tru (cb (ce_call G_l_is_prime hr (by decide) tk (ca_cons (ce_v 1) (ca_cons (ce_v 6) ca_nil))))) (css_one (cs_ret (ce_v 6))) css_nil) (css_no 6 (css_no 5 css_nil))))) (css_one (cs_ret (ce_frz (co_lst (ca_cons ce_int (ca_cons ce_int ca_nil)))))))))

/-! ## _law_world: 0 _law_deal_here, 1 _law_p, 2 _law_degree -/
abbrev s_l_world : Stmt := top 47
abbrev n_l_world : List Str := ["_law_deal_here", "_law_p", "_law_degree"]
theorem sc_l_world : FnScope n_l_world ["_law_deal_here"] (defScope s_l_world) := ⟨rfl, rfl, rfl, by decide +kernel, rfl, by decide +kernel, by decide +kernel⟩
def f_l_world_b : Rho → R Out := (mSeq (mAsg (bTup (bCons (bName 1) (bCons (bName 2) bNil))) (mCall 1 f_l_size (mCons (mVar 0) mNil))) (mRet (mTup (mCons (mVar 1) (mCons (mCall 3 f_l_modulus (mCons (mVar 0) (mCons (mVar 1) (mCons (mVar 2) mNil)))) mNil)))))
def f_l_world : List D → R D := mFun 3 1 f_l_world_b
set_option maxRecDepth 100000 in
set_option maxHeartbeats 8000000 in
theorem b_l_world {P : Program} {w : World} {K : PySem.W.Frag} {mg : Str → Option Value} {base : Heap} (T : Bi P K mg) (G_l_modulus : Cal P w K mg base 3 "_law_modulus" 3 f_l_modulus) (G_l_size : Cal P w K mg base 3 "_law_size" 1 f_l_size) : BodyOk P w K mg base n_l_world "_law_world" s_l_world 3 f_l_world_b := fun f cdv A outer s H E B hr tk pf => by
  have nd := sc_l_world.nd
  exact (css_cons (cs_asg (ws := [1, 2]) (ce_call G_l_size hr (by decide) tk (ca_cons (ce_v 0) ca_nil)) (cg_tup rfl (cgs_cons (cg_name 1 nd) (cgs_cons (cg_name 2 nd) cgs_nil)) (bnS (bnS bn0)))) (css_one (cs_ret (ce_tup (ca_cons (ce_v 1) (ca_cons (ce_call G_l_modulus hr (by decide) tk (ca_cons (ce_v 0) (ca_cons (ce_v 1) (ca_cons (ce_v 2) ca_nil)))) ca_nil))))))

/-! ## is_integer: 0 value -/
abbrev s_is_integer : Stmt := top 9
abbrev n_is_integer : List Str := ["value"]
theorem sc_is_integer : FnScope n_is_integer ["value"] (defScope s_is_integer) := ⟨rfl, rfl, rfl, by decide +kernel, rfl, by decide +kernel, by decide +kernel⟩
def f_is_integer_b : Rho → R Out := (mRet (mAndV (mUn (dIsi "int") (mVarB 0)) (mNotV (mUn (dIsi "bool") (mVarB 0)))))
def f_is_integer : List D → R D := mFun 1 1 f_is_integer_b
set_option maxRecDepth 100000 in
set_option maxHeartbeats 8000000 in
theorem b_is_integer {P : Program} {w : World} {K : PySem.W.Frag} {mg : Str → Option Value} {base : Heap} (T : Bi P K mg) : BodyOk P w K mg base n_is_integer "is_integer" s_is_integer 0 f_is_integer_b := fun f cdv A outer s H E B hr tk pf => by
  have nd := sc_is_integer.nd
  exact (css_one (cs_ret (ce_and (ce_isi "int" (cb_v 0) T.b_isinstance T.b_int) (ce_one (ce_not (ce_isi "bool" (cb_v 0) T.b_isinstance T.b_bool))))))

/-! ## is_prime: 0 number, 1 least -/
abbrev s_is_prime : Stmt := top 15
abbrev n_is_prime : List Str := ["number", "least"]
theorem sc_is_prime : FnScope n_is_prime ["number"] (defScope s_is_prime) := ⟨rfl, rfl, rfl, by decide +kernel, rfl, by decide +kernel, by decide +kernel⟩
noncomputable def f_is_prime_b : Rho → R Out := (mSeq (mIf (mTb (mBin dLt (mVarB 0) (mC (.int 2)))) (mRet (mC (.bl false))) mSkip) (mSeq (mSet 1 (mC (.int 2))) (mSeq (mWhile (mTb (mBin dLe (mBin dMul (mVarB 1) (mVarB 1)) (mVarB 0))) (mSeq (mIf (mTb (mBin dEq (mBin dMod (mVarB 0) (mVarB 1)) (mC (.int 0)))) (mRet (mC (.bl false))) mSkip) (mAug 1 dIAdd (mC (.int 1))))) (mRet (mC (.bl true))))))
noncomputable def f_is_prime : List D → R D := mFun 2 1 f_is_prime_b
set_option maxRecDepth 100000 in
set_option maxHeartbeats 8000000 in
theorem b_is_prime {P : Program} {w : World} {K : PySem.W.Frag} {mg : Str → Option Value} {base : Heap} (T : Bi P K mg) : BodyOk P w K mg base n_is_prime "is_prime" s_is_prime 0 f_is_prime_b := fun f cdv A outer s H E B hr tk pf => by
  have nd := sc_is_prime.nd
  exact (css_cons (cs_if (ct_lt (cb_v 0) (cb ce_int)) (css_one (cs_ret ce_bl)) css_nil) (css_cons (cs_set 1 nd ce_int) (css_cons (cs_while pf (ct_le (cb (ce_mul (cb_v 1) (cb_v 1))) (cb_v 0)) (css_cons (cs_if (ct_eq hr.room.units (cb (ce_mod (cb_v 0) (cb_v 1))) (cb ce_int)) (css_one (cs_ret ce_bl)) css_nil) (css_one (cs_iadd 1 nd (cb ce_int))))) (css_one (cs_ret ce_bl)))))

/-! ## is_small_prime: 0 value -/
abbrev s_is_small_prime : Stmt := top 23
abbrev n_is_small_prime : List Str := ["value"]
theorem sc_is_small_prime : FnScope n_is_small_prime ["value"] (defScope s_is_small_prime) := ⟨rfl, rfl, rfl, by decide +kernel, rfl, by decide +kernel, by decide +kernel⟩
noncomputable def f_is_small_prime_b : Rho → R Out := (mRet (mAndV (mCall 1 f_is_integer (mCons (mVar 0) mNil)) (mAndV (mBin dLe (mVarB 0) (mC (.int 49))) (mCall 1 f_is_prime (mCons (mVar 0) mNil)))))
noncomputable def f_is_small_prime : List D → R D := mFun 1 1 f_is_small_prime_b
set_option maxRecDepth 100000 in
set_option maxHeartbeats 8000000 in
theorem b_is_small_prime {P : Program} {w : World} {K : PySem.W.Frag} {mg : Str → Option Value} {base : Heap} (T : Bi P K mg) (G_is_integer : Cal P w K mg base 1 "is_integer" 1 f_is_integer) (G_is_prime : Cal P w K mg base 1 "is_prime" 1 f_is_prime) : BodyOk P w K mg base n_is_small_prime "is_small_prime" s_is_small_prime 1 f_is_small_prime_b := fun f cdv A outer s H E B hr tk pf => by
  have nd := sc_is_small_prime.nd
  exact (css_one (cs_ret (ce_and (ce_call G_is_integer hr (by decide) tk (ca_cons (ce_v 0) ca_nil)) (ce_and (ce_le (cb_v 0) (cb (ce_gint T.k_MOST_STATES.1 T.k_MOST_STATES.2))) (ce_one (ce_call G_is_prime hr (by decide) tk (ca_cons (ce_v 0) ca_nil)))))))

/-! ## is_sequence: 0 value -/
abbrev s_is_sequence : Stmt := top 12
abbrev n_is_sequence : List Str := ["value"]
theorem sc_is_sequence : FnScope n_is_sequence ["value"] (defScope s_is_sequence) := ⟨rfl, rfl, rfl, by decide +kernel, rfl, by decide +kernel, by decide +kernel⟩
def f_is_sequence_b : Rho → R Out := (mRet (mUn (dIsi2 "list" "tuple") (mVarB 0)))
def f_is_sequence : List D → R D := mFun 1 1 f_is_sequence_b
set_option maxRecDepth 100000 in
set_option maxHeartbeats 8000000 in
theorem b_is_sequence {P : Program} {w : World} {K : PySem.W.Frag} {mg : Str → Option Value} {base : Heap} (T : Bi P K mg) : BodyOk P w K mg base n_is_sequence "is_sequence" s_is_sequence 0 f_is_sequence_b := fun f cdv A outer s H E B hr tk pf => by
  have nd := sc_is_sequence.nd
  exact (css_one (cs_ret (ce_isi2 "list" "tuple" (cb_v 0) T.b_isinstance T.b_list T.b_tuple)))

/-! ## is_below: 0 value, 1 bound -/
abbrev s_is_below : Stmt := top 10
abbrev n_is_below : List Str := ["value", "bound"]
theorem sc_is_below : FnScope n_is_below ["value", "bound"] (defScope s_is_below) := ⟨rfl, rfl, rfl, by decide +kernel, rfl, by decide +kernel, by decide +kernel⟩
def f_is_below_b : Rho → R Out := (mRet (mAndV (mCall 1 f_is_integer (mCons (mVar 0) mNil)) (mChain dLe dLt (mC (.int 0)) (mVarB 0) (mVarB 1))))
def f_is_below : List D → R D := mFun 2 2 f_is_below_b
set_option maxRecDepth 100000 in
set_option maxHeartbeats 8000000 in
theorem b_is_below {P : Program} {w : World} {K : PySem.W.Frag} {mg : Str → Option Value} {base : Heap} (T : Bi P K mg) (G_is_integer : Cal P w K mg base 1 "is_integer" 1 f_is_integer) : BodyOk P w K mg base n_is_below "is_below" s_is_below 1 f_is_below_b := fun f cdv A outer s H E B hr tk pf => by
  have nd := sc_is_below.nd
  exact (css_one (cs_ret (ce_and (ce_call G_is_integer hr (by decide) tk (ca_cons (ce_v 0) ca_nil)) (ce_one (ce_chain op_le op_lt opd_le opd_lt (cb ce_int) (cb_v 0) (cb_v 1))))))

/-! ## small_power: 0 base, 1 times, 2 found, 3 _ -/
abbrev s_small_power : Stmt := top 14
abbrev n_small_power : List Str := ["base", "times", "found", "_"]
theorem sc_small_power : FnScope n_small_power ["base", "times"] (defScope s_small_power) := ⟨rfl, rfl, rfl, by decide +kernel, rfl, by decide +kernel, by decide +kernel⟩
def f_small_power_b : Rho → R Out := (mSeq (mSet 2 (mC (.int 1))) (mSeq (mFor (mArgs dRange1 (mCons (mVar 1) mNil)) (bName 3) (mSeq (mAug 2 dIMul (mVarB 0)) (mNo 3 mSkip))) (mRet (mVar 2))))
def f_small_power : List D → R D := mFun 4 2 f_small_power_b
set_option maxRecDepth 100000 in
set_option maxHeartbeats 8000000 in
theorem b_small_power {P : Program} {w : World} {K : PySem.W.Frag} {mg : Str → Option Value} {base : Heap} (T : Bi P K mg) : BodyOk P w K mg base n_small_power "small_power" s_small_power 0 f_small_power_b := fun f cdv A outer s H E B hr tk pf => by
  have nd := sc_small_power.nd
  exact (css_cons (cs_set 2 nd ce_int) (css_cons (cs_for (ws := [3]) pf rfl (ci_range1 T.b_range (ca_cons (ce_v 1) ca_nil)) (cg_name 3 nd) (css_cons (cs_imul 2 nd (cb_v 0)) (css_no 3 css_nil))) (css_one (cs_ret (ce_v 2)))))

/-! ## numbered_polynomial: 0 p, 1 degree, 2 number, 3 found, 4 _ -/
abbrev s_numbered_polynomial : Stmt := top 21
abbrev n_numbered_polynomial : List Str := ["p", "degree", "number", "found", "_"]
theorem sc_numbered_polynomial : FnScope n_numbered_polynomial ["p", "degree", "number"] (defScope s_numbered_polynomial) := ⟨rfl, rfl, rfl, by decide +kernel, rfl, by decide +kernel, by decide +kernel⟩
def f_numbered_polynomial_b : Rho → R Out := (mSeq (mOwn 3 (mLst mNil)) (mSeq (mFor (mArgs dRange1 (mCons (mVar 1) mNil)) (bName 4) (mSeq (mApp 3 (mBin dMod (mVarB 2) (mVarB 0))) (mSeq (mAug 2 dIDiv (mVarB 0)) (mNo 4 mSkip)))) (mRet (mTupC (mBin dAdd (mVarB 3) (mFrz (mLst (mCons (mC (.int 1)) mNil))))))))
def f_numbered_polynomial : List D → R D := mFun 5 3 f_numbered_polynomial_b
set_option maxRecDepth 100000 in
set_option maxHeartbeats 8000000 in
theorem b_numbered_polynomial {P : Program} {w : World} {K : PySem.W.Frag} {mg : Str → Option Value} {base : Heap} (T : Bi P K mg) : BodyOk P w K mg base n_numbered_polynomial "numbered_polynomial" s_numbered_polynomial 0 f_numbered_polynomial_b := fun f cdv A outer s H E B hr tk pf => by
  have nd := sc_numbered_polynomial.nd
  exact (css_cons (cs_own 3 nd (co_lst ca_nil)) (css_cons (cs_for (ws := [4]) pf rfl (ci_range1 T.b_range (ca_cons (ce_v 1) ca_nil)) (cg_name 4 nd) (css_cons (cs_app 3 (pe_bm PySem.F.plainAttrs_list PySem.F.slot_list_append PySem.F.type_list_append mt_append (pv 3) (pa_cons (ce_mod (cb_v 2) (cb_v 0)) pa_nil))) (css_cons (cs_idiv 2 nd (cb_v 0)) (css_no 4 css_nil)))) (css_one (cs_ret (ce_tuple (cb (ce_add (cb_v 3) (cb (ce_frz (co_lst (ca_cons ce_int ca_nil)))))) T.b_tuple)))))

/-! ## trimmed_off: 0 values, 1 end -/
abbrev s_trimmed_off : Stmt := top 18
abbrev n_trimmed_off : List Str := ["values", "end"]
theorem sc_trimmed_off : FnScope n_trimmed_off ["values"] (defScope s_trimmed_off) := ⟨rfl, rfl, rfl, by decide +kernel, rfl, by decide +kernel, by decide +kernel⟩
noncomputable def f_trimmed_off_b : Rho → R Out := (mSeq (mSet 1 (mBi dLen (mCons (mVarB 0) mNil))) (mSeq (mWhile (mAndT (mTb (mBin dGt (mVarB 1) (mC (.int 0)))) (mTb (mBin dEq (mBin dIx (mVarB 0) (mBin dSub (mVarB 1) (mC (.int 1)))) (mC (.int 0))))) (mAug 1 dSub (mC (.int 1)))) (mRet (mTupC (mCut (mVarB 0) mNone (mPart (mVarB 1)))))))
noncomputable def f_trimmed_off : List D → R D := mFun 2 1 f_trimmed_off_b
set_option maxRecDepth 100000 in
set_option maxHeartbeats 8000000 in
theorem b_trimmed_off {P : Program} {w : World} {K : PySem.W.Frag} {mg : Str → Option Value} {base : Heap} (T : Bi P K mg) : BodyOk P w K mg base n_trimmed_off "trimmed_off" s_trimmed_off 0 f_trimmed_off_b := fun f cdv A outer s H E B hr tk pf => by
  have nd := sc_trimmed_off.nd
  exact (css_cons (cs_set 1 nd (ce_len (cab_cons (cb_v 0) cab_nil) T.b_len)) (css_cons (cs_while pf (PW.pt (cw_and (ct_gt (cb_v 1) (cb ce_int)) (cw_and1 (ct_eq hr.room.units (cb (ce_ix (cb_v 0) (cb (ce_sub (cb_v 1) (cb ce_int))))) (cb ce_int))))) (css_one (cs_isub 1 nd (cb ce_int)))) (css_one (cs_ret (ce_tuple (cb (ce_cut (cb_v 0) cp_none (cp_some (cb_v 1)))) T.b_tuple)))))

/-! ## polynomial_rest: 0 p, 1 one, 2 other, 3 quotient, 4 at, 5 rest, 6 many, 7 top, 8 further, 9 right -/
abbrev s_polynomial_rest : Stmt := top 20
abbrev n_polynomial_rest : List Str := ["p", "one", "other", "quotient", "at", "rest", "many", "top", "further", "right"]
theorem sc_polynomial_rest : FnScope n_polynomial_rest ["p", "one", "other"] (defScope s_polynomial_rest) := ⟨rfl, rfl, rfl, by decide +kernel, rfl, by decide +kernel, by decide +kernel⟩
noncomputable def f_polynomial_rest_b : Rho → R Out := (mSeq (mPar2 5 6 (mOw (mSeqL (mCons (mVarB 1) mNil))) (mSh (mBin dSub (mBi dLen (mCons (mVarB 2) mNil)) (mC (.int 1))))) (mSeq (mOwn 3 (mMulL (mFrz (mLst (mCons (mC (.int 0)) mNil))) (mBi dMax2 (mCons (mBin dSub (mBi dLen (mCons (mVarB 1) mNil)) (mVarB 6)) (mCons (mC (.int 0)) mNil))))) (mSeq (mFor (mArgs dRange3 (mCons (mBin dSub (mBi dLen (mCons (mVarB 3) mNil)) (mC (.int 1))) (mCons (mUn dNeg (mC (.int 1))) (mCons (mUn dNeg (mC (.int 1))) mNil)))) (bName 4) (mSeq (mSet 7 (mBin dIx (mVarB 5) (mBin dAdd (mVarB 4) (mVarB 6)))) (mSeq (mStore 3 (mVar 7) (mVarB 4)) (mSeq (mFor (mArgs dEnum (mCons (mVar 2) mNil)) (bTup (bCons (bName 8) (bCons (bName 9) bNil))) (mSeq (mStore 5 (mBin dMod (mBin dSub (mBin dIx (mVarB 5) (mBin dAdd (mVarB 4) (mVarB 8))) (mBin dMul (mVarB 7) (mVarB 9))) (mVarB 0)) (mBin dAdd (mVarB 4) (mVarB 8))) (mNo 9 (mNo 8 mSkip)))) (mNo 9 (mNo 8 (mNo 7 (mNo 4 mSkip)))))))) (mFrzS 5 (mFrzS 3 (mRet (mTup (mCons (mCall 1 f_trimmed_off (mCons (mVar 3) mNil)) (mCons (mCall 1 f_trimmed_off (mCons (mVar 5) mNil)) mNil)))))))))
noncomputable def f_polynomial_rest : List D → R D := mFun 10 3 f_polynomial_rest_b
set_option maxRecDepth 100000 in
set_option maxHeartbeats 8000000 in
theorem b_polynomial_rest {P : Program} {w : World} {K : PySem.W.Frag} {mg : Str → Option Value} {base : Heap} (T : Bi P K mg) (G_trimmed_off : Cal P w K mg base 1 "trimmed_off" 1 f_trimmed_off) : BodyOk P w K mg base n_polynomial_rest "polynomial_rest" s_polynomial_rest 1 f_polynomial_rest_b := fun f cdv A outer s H E B hr tk pf => by
  have nd := sc_polynomial_rest.nd
  exact (css_cons (cs_par2 5 6 rfl nd (ck_ow (co_list (cab_cons (cb_v 1) cab_nil) T.b_list)) (ck_sh (ce_sub (cb (ce_len (cab_cons (cb_v 2) cab_nil) T.b_len)) (cb ce_int)))) (css_cons (cs_own 3 nd (co_mul (cb (ce_frz (co_lst (ca_cons ce_int ca_nil)))) (cb (ce_max2 (cab_cons (cb (ce_sub (cb (ce_len (cab_cons (cb_v 1) cab_nil) T.b_len)) (cb_v 6))) (cab_cons (cb ce_int) cab_nil)) rfl T.b_max)))) (css_cons (cs_for (ws := [4]) pf rfl (ci_range3 T.b_range (ca_cons (ce_sub (cb (ce_len (cab_cons (cb_v 3) cab_nil) T.b_len)) (cb ce_int)) (ca_cons (ce_neg (cb ce_int)) (ca_cons (ce_neg (cb ce_int)) ca_nil)))) (cg_name 4 nd) (css_cons (cs_set 7 nd (ce_ix (cb_v 5) (cb (ce_add (cb_v 4) (cb_v 6))))) (css_cons (cs_store 3 (ce_v 7) (pv 3) (cb_v 4)) (css_cons (cs_for (ws := [8, 9]) pf rfl (ci_enum T.b_enumerate (ca_cons (ce_v 2) ca_nil)) (cg_tup rfl (cgs_cons (cg_name 8 nd) (cgs_cons (cg_name 9 nd) cgs_nil)) (bnS (bnS bn0))) (css_cons (cs_store 5 (ce_mod (cb (ce_sub (cb (ce_ix (cb_v 5) (cb (ce_add (cb_v 4) (cb_v 8))))) (cb (ce_mul (cb_v 7) (cb_v 9))))) (cb_v 0)) (pv 5) (cb (ce_add (cb_v 4) (cb_v 8)))) (css_no 9 (css_no 8 css_nil)))) (css_no 9 (css_no 8 (css_no 7 (css_no 4 css_nil)))))))) (css_frz 5 (css_frz 3 (css_one (cs_ret (ce_tup (ca_cons (ce_call G_trimmed_off hr (by decide) tk (ca_cons (ce_v 3) ca_nil)) (ca_cons (ce_call G_trimmed_off hr (by decide) tk (ca_cons (ce_v 5) ca_nil)) ca_nil))))))))))

/-! ## polynomial_factors: 0 p, 1 polynomial, 2 found, 3 rest, 4 degree, 5 number, 6 one, 7 quotient, 8 left -/
abbrev s_polynomial_factors : Stmt := top 22
abbrev n_polynomial_factors : List Str := ["p", "polynomial", "found", "rest", "degree", "number", "one", "quotient", "left"]
theorem sc_polynomial_factors : FnScope n_polynomial_factors ["p", "polynomial"] (defScope s_polynomial_factors) := ⟨rfl, rfl, rfl, by decide +kernel, rfl, by decide +kernel, by decide +kernel⟩
noncomputable def f_polynomial_factors_b : Rho → R Out := (mSeq (mPar3 2 3 4 (mOw (mLst mNil)) (mSh (mTupC (mVarB 1))) (mSh (mC (.int 1)))) (mSeq (mWhile (mTb (mBin dLt (mBin dMul (mC (.int 2)) (mVarB 4)) (mBi dLen (mCons (mVarB 3) mNil)))) (mSeq (mFor (mArgs dRange1 (mCons (mCall 2 f_small_power (mCons (mVar 0) (mCons (mVar 4) mNil))) mNil)) (bName 5) (mSeq (mSet 6 (mCall 3 f_numbered_polynomial (mCons (mVar 0) (mCons (mVar 4) (mCons (mVar 5) mNil))))) (mSeq (mAsg (bTup (bCons (bName 7) (bCons (bName 8) bNil))) (mCall 3 f_polynomial_rest (mCons (mVar 0) (mCons (mVar 3) (mCons (mVar 6) mNil))))) (mSeq (mWhile (mAndT (mTb (mBin dEq (mVarB 8) (mTup mNil))) (mTb (mBin dGe (mBi dLen (mCons (mVarB 3) mNil)) (mBi dLen (mCons (mVarB 6) mNil))))) (mSeq (mApp 2 (mVar 6)) (mSeq (mSet 3 (mVar 7)) (mAsg (bTup (bCons (bName 7) (bCons (bName 8) bNil))) (mCall 3 f_polynomial_rest (mCons (mVar 0) (mCons (mVar 3) (mCons (mVar 6) mNil)))))))) (mNo 8 (mNo 7 (mNo 6 (mNo 5 mSkip)))))))) (mSeq (mAug 4 dIAdd (mC (.int 1))) (mNo 8 (mNo 7 (mNo 6 (mNo 5 mSkip))))))) (mRet (mIfE (mTb (mBin dGt (mBi dLen (mCons (mVarB 3) mNil)) (mC (.int 1)))) (mTupC (mBin dAdd (mVarB 2) (mFrz (mLst (mCons (mVar 3) mNil))))) (mTupC (mVarB 2))))))
noncomputable def f_polynomial_factors : List D → R D := mFun 9 2 f_polynomial_factors_b
set_option maxRecDepth 100000 in
set_option maxHeartbeats 8000000 in
theorem b_polynomial_factors {P : Program} {w : World} {K : PySem.W.Frag} {mg : Str → Option Value} {base : Heap} (T : Bi P K mg) (G_numbered_polynomial : Cal P w K mg base 1 "numbered_polynomial" 3 f_numbered_polynomial) (G_polynomial_rest : Cal P w K mg base 2 "polynomial_rest" 3 f_polynomial_rest) (G_small_power : Cal P w K mg base 1 "small_power" 2 f_small_power) : BodyOk P w K mg base n_polynomial_factors "polynomial_factors" s_polynomial_factors 2 f_polynomial_factors_b := fun f cdv A outer s H E B hr tk pf => by
  have nd := sc_polynomial_factors.nd
  exact (css_cons (cs_par3 2 3 4 rfl nd (ck_ow (co_lst ca_nil)) (ck_sh (ce_tuple (cb_v 1) T.b_tuple)) (ck_sh ce_int)) (css_cons (cs_while pf (ct_lt (cb (ce_mul (cb ce_int) (cb_v 4))) (cb (ce_len (cab_cons (cb_v 3) cab_nil) T.b_len))) (css_cons (cs_for (ws := [5]) pf rfl (ci_range1 T.b_range (ca_cons (ce_call G_small_power hr (by decide) tk (ca_cons (ce_v 0) (ca_cons (ce_v 4) ca_nil))) ca_nil)) (cg_name 5 nd) (css_cons (cs_set 6 nd (ce_call G_numbered_polynomial hr (by decide) tk (ca_cons (ce_v 0) (ca_cons (ce_v 4) (ca_cons (ce_v 5) ca_nil))))) (css_cons (cs_asg (ws := [7, 8]) (ce_call G_polynomial_rest hr (by decide) tk (ca_cons (ce_v 0) (ca_cons (ce_v 3) (ca_cons (ce_v 6) ca_nil)))) (cg_tup rfl (cgs_cons (cg_name 7 nd) (cgs_cons (cg_name 8 nd) cgs_nil)) (bnS (bnS bn0)))) (css_cons (cs_while pf (PW.pt (cw_and (ct_eq hr.room.units (cb_v 8) (cb (ce_tup ca_nil))) (cw_and1 (ct_ge (cb (ce_len (cab_cons (cb_v 3) cab_nil) T.b_len)) (cb (ce_len (cab_cons (cb_v 6) cab_nil) T.b_len)))))) (css_cons (cs_app 2 (pe_bm PySem.F.plainAttrs_list PySem.F.slot_list_append PySem.F.type_list_append mt_append (pv 2) (pa_cons (ce_v 6) pa_nil))) (css_cons (cs_set 3 nd (ce_v 7)) (css_one (cs_asg (ws := [7, 8]) (ce_call G_polynomial_rest hr (by decide) tk (ca_cons (ce_v 0) (ca_cons (ce_v 3) (ca_cons (ce_v 6) ca_nil)))) (cg_tup rfl (cgs_cons (cg_name 7 nd) (cgs_cons (cg_name 8 nd) cgs_nil)) (bnS (bnS bn0)))))))) (css_no 8 (css_no 7 (css_no 6 (css_no 5 css_nil)))))))) (css_cons (cs_iadd 4 nd (cb ce_int)) (css_no 8 (css_no 7 (css_no 6 (css_no 5 css_nil))))))) (css_one (cs_ret (ce_if (ct_gt (cb (ce_len (cab_cons (cb_v 3) cab_nil) T.b_len)) (cb ce_int)) (ce_tuple (cb (ce_add (cb_v 2) (cb (ce_frz (co_lst (ca_cons (ce_v 3) ca_nil)))))) T.b_tuple) (ce_tuple (cb_v 2) T.b_tuple))))))

/-! ## wrong_modulus: 0 p, 1 modulus, 2 size, 3 at, 4 one -/
abbrev s_wrong_modulus : Stmt := top 24
abbrev n_wrong_modulus : List Str := ["p", "modulus", "size", "at", "one"]
theorem sc_wrong_modulus : FnScope n_wrong_modulus ["p", "modulus"] (defScope s_wrong_modulus) := ⟨rfl, rfl, rfl, by decide +kernel, rfl, by decide +kernel, by decide +kernel⟩
noncomputable def f_wrong_modulus_b : Rho → R Out := (mSeq (mIf (mNotT (mTt (mCall 1 f_is_sequence (mCons (mVar 1) mNil)))) (mRet (mC (.int 0))) mSkip) (mSeq (mSet 2 (mC (.int 1))) (mSeq (mFor (mArgs dEnum (mCons (mVar 1) mNil)) (bTup (bCons (bName 3) (bCons (bName 4) bNil))) (mSeq (mIf (mOrT (mNotT (mTt (mCall 2 f_is_below (mCons (mVar 4) (mCons (mVar 0) mNil))))) (mOrT (mTb (mBin dGt (mVarB 2) (mC (.int 49)))) (mAndT (mTb (mBin dEq (mVarB 3) (mBin dSub (mBi dLen (mCons (mVarB 1) mNil)) (mC (.int 1))))) (mTb (mBin dNe (mVarB 4) (mC (.int 1))))))) (mRet (mVar 3)) mSkip) (mSeq (mAug 2 dIMul (mVarB 0)) (mNo 4 (mNo 3 mSkip))))) (mSeq (mIf (mOrT (mTb (mBin dLt (mBi dLen (mCons (mVarB 1) mNil)) (mC (.int 2)))) (mTb (mBin dGt (mBi dLen (mCons (mCall 2 f_polynomial_factors (mCons (mVar 0) (mCons (mVar 1) mNil))) mNil)) (mC (.int 1))))) (mRet (mBi dLen (mCons (mVarB 1) mNil))) mSkip) (mRet (mC .non))))))
noncomputable def f_wrong_modulus : List D → R D := mFun 5 2 f_wrong_modulus_b
set_option maxRecDepth 100000 in
set_option maxHeartbeats 8000000 in
theorem b_wrong_modulus {P : Program} {w : World} {K : PySem.W.Frag} {mg : Str → Option Value} {base : Heap} (T : Bi P K mg) (G_is_below : Cal P w K mg base 2 "is_below" 2 f_is_below) (G_is_sequence : Cal P w K mg base 1 "is_sequence" 1 f_is_sequence) (G_polynomial_factors : Cal P w K mg base 3 "polynomial_factors" 2 f_polynomial_factors) : BodyOk P w K mg base n_wrong_modulus "wrong_modulus" s_wrong_modulus 3 f_wrong_modulus_b := fun f cdv A outer s H E B hr tk pf => by
  have nd := sc_wrong_modulus.nd
  exact (css_cons (cs_if (ct_not (ct_tru (cb (ce_call G_is_sequence hr (by decide) tk (ca_cons (ce_v 1) ca_nil))))) (css_one (cs_ret ce_int)) css_nil) (css_cons (cs_set 2 nd ce_int) (css_cons (cs_for (ws := [3, 4]) pf rfl (ci_enum T.b_enumerate (ca_cons (ce_v 1) ca_nil)) (cg_tup rfl (cgs_cons (cg_name 3 nd) (cgs_cons (cg_name 4 nd) cgs_nil)) (bnS (bnS bn0))) (css_cons (cs_if (PW.pt (cw_or (ct_not (ct_tru (cb (ce_call G_is_below hr (by decide) tk (ca_cons (ce_v 4) (ca_cons (ce_v 0) ca_nil)))))) (cw_or (ct_gt (cb_v 2) (cb (ce_gint T.k_MOST_STATES.1 T.k_MOST_STATES.2))) (cw_or1 (PW.pt (cw_and (ct_eq hr.room.units (cb_v 3) (cb (ce_sub (cb (ce_len (cab_cons (cb_v 1) cab_nil) T.b_len)) (cb ce_int)))) (cw_and1 (ct_ne hr.room.units (cb_v 4) (cb ce_int))))))))) (css_one (cs_ret (ce_v 3))) css_nil) (css_cons (cs_imul 2 nd (cb_v 0)) (css_no 4 (css_no 3 css_nil))))) (css_cons (cs_if (PW.pt (cw_or (ct_lt (cb (ce_len (cab_cons (cb_v 1) cab_nil) T.b_len)) (cb ce_int)) (cw_or1 (ct_gt (cb (ce_len (cab_cons (cb (ce_call G_polynomial_factors hr (by decide) tk (ca_cons (ce_v 0) (ca_cons (ce_v 1) ca_nil)))) cab_nil) T.b_len)) (cb ce_int))))) (css_one (cs_ret (ce_len (cab_cons (cb_v 1) cab_nil) T.b_len))) css_nil) (css_one (cs_ret ce_non))))))

/-! ## polynomial_product: 0 p, 1 one, 2 other, 3 found, 4 at, 5 left, 6 further, 7 right -/
abbrev s_polynomial_product : Stmt := top 19
abbrev n_polynomial_product : List Str := ["p", "one", "other", "found", "at", "left", "further", "right"]
theorem sc_polynomial_product : FnScope n_polynomial_product ["p", "one", "other"] (defScope s_polynomial_product) := ⟨rfl, rfl, rfl, by decide +kernel, rfl, by decide +kernel, by decide +kernel⟩
noncomputable def f_polynomial_product_b : Rho → R Out := (mSeq (mOwn 3 (mMulL (mFrz (mLst (mCons (mC (.int 0)) mNil))) (mBin dAdd (mBi dLen (mCons (mVarB 1) mNil)) (mBi dLen (mCons (mVarB 2) mNil))))) (mSeq (mFor (mArgs dEnum (mCons (mVar 1) mNil)) (bTup (bCons (bName 4) (bCons (bName 5) bNil))) (mSeq (mFor (mArgs dEnum (mCons (mVar 2) mNil)) (bTup (bCons (bName 6) (bCons (bName 7) bNil))) (mSeq (mStore 3 (mBin dMod (mBin dAdd (mBin dIx (mVarB 3) (mBin dAdd (mVarB 4) (mVarB 6))) (mBin dMul (mVarB 5) (mVarB 7))) (mVarB 0)) (mBin dAdd (mVarB 4) (mVarB 6))) (mNo 7 (mNo 6 mSkip)))) (mNo 7 (mNo 6 (mNo 5 (mNo 4 mSkip)))))) (mFrzS 3 (mRet (mCall 1 f_trimmed_off (mCons (mVar 3) mNil))))))
noncomputable def f_polynomial_product : List D → R D := mFun 8 3 f_polynomial_product_b
set_option maxRecDepth 100000 in
set_option maxHeartbeats 8000000 in
theorem b_polynomial_product {P : Program} {w : World} {K : PySem.W.Frag} {mg : Str → Option Value} {base : Heap} (T : Bi P K mg) (G_trimmed_off : Cal P w K mg base 1 "trimmed_off" 1 f_trimmed_off) : BodyOk P w K mg base n_polynomial_product "polynomial_product" s_polynomial_product 1 f_polynomial_product_b := fun f cdv A outer s H E B hr tk pf => by
  have nd := sc_polynomial_product.nd
  exact (css_cons (cs_own 3 nd (co_mul (cb (ce_frz (co_lst (ca_cons ce_int ca_nil)))) (cb (ce_add (cb (ce_len (cab_cons (cb_v 1) cab_nil) T.b_len)) (cb (ce_len (cab_cons (cb_v 2) cab_nil) T.b_len)))))) (css_cons (cs_for (ws := [4, 5]) pf rfl (ci_enum T.b_enumerate (ca_cons (ce_v 1) ca_nil)) (cg_tup rfl (cgs_cons (cg_name 4 nd) (cgs_cons (cg_name 5 nd) cgs_nil)) (bnS (bnS bn0))) (css_cons (cs_for (ws := [6, 7]) pf rfl (ci_enum T.b_enumerate (ca_cons (ce_v 2) ca_nil)) (cg_tup rfl (cgs_cons (cg_name 6 nd) (cgs_cons (cg_name 7 nd) cgs_nil)) (bnS (bnS bn0))) (css_cons (cs_store 3 (ce_mod (cb (ce_add (cb (ce_ix (cb_v 3) (cb (ce_add (cb_v 4) (cb_v 6))))) (cb (ce_mul (cb_v 5) (cb_v 7))))) (cb_v 0)) (pv 3) (cb (ce_add (cb_v 4) (cb_v 6)))) (css_no 7 (css_no 6 css_nil)))) (css_no 7 (css_no 6 (css_no 5 (css_no 4 css_nil)))))) (css_frz 3 (css_one (cs_ret (ce_call G_trimmed_off hr (by decide) tk (ca_cons (ce_v 3) ca_nil)))))))

/-! ## digits_of: 0 number, 1 p, 2 many -/
abbrev s_digits_of : Stmt := top 25
abbrev n_digits_of : List Str := ["number", "p", "many"]
theorem sc_digits_of : FnScope n_digits_of ["number", "p", "many"] (defScope s_digits_of) := ⟨rfl, rfl, rfl, by decide +kernel, rfl, by decide +kernel, by decide +kernel⟩
def f_digits_of_b : Rho → R Out := (mRet (mCut (mCall 3 f_numbered_polynomial (mCons (mVar 1) (mCons (mVar 2) (mCons (mVar 0) mNil)))) mNone (mPart (mVarB 2))))
def f_digits_of : List D → R D := mFun 3 3 f_digits_of_b
set_option maxRecDepth 100000 in
set_option maxHeartbeats 8000000 in
theorem b_digits_of {P : Program} {w : World} {K : PySem.W.Frag} {mg : Str → Option Value} {base : Heap} (T : Bi P K mg) (G_numbered_polynomial : Cal P w K mg base 1 "numbered_polynomial" 3 f_numbered_polynomial) : BodyOk P w K mg base n_digits_of "digits_of" s_digits_of 1 f_digits_of_b := fun f cdv A outer s H E B hr tk pf => by
  have nd := sc_digits_of.nd
  exact (css_one (cs_ret (ce_cut (cb (ce_call G_numbered_polynomial hr (by decide) tk (ca_cons (ce_v 1) (ca_cons (ce_v 2) (ca_cons (ce_v 0) ca_nil))))) cp_none (cp_some (cb_v 2)))))

/-! ## from_digits: 0 digits, 1 p, 2 found, 3 one -/
abbrev s_from_digits : Stmt := top 26
abbrev n_from_digits : List Str := ["digits", "p", "found", "one"]
theorem sc_from_digits : FnScope n_from_digits ["digits", "p"] (defScope s_from_digits) := ⟨rfl, rfl, rfl, by decide +kernel, rfl, by decide +kernel, by decide +kernel⟩
def f_from_digits_b : Rho → R Out := (mSeq (mSet 2 (mC (.int 0))) (mSeq (mFor (mRevI (mVar 0)) (bName 3) (mSeq (mSet 2 (mBin dAdd (mBin dMul (mVarB 2) (mVarB 1)) (mVarB 3))) (mNo 3 mSkip))) (mRet (mVar 2))))
def f_from_digits : List D → R D := mFun 4 2 f_from_digits_b
set_option maxRecDepth 100000 in
set_option maxHeartbeats 8000000 in
theorem b_from_digits {P : Program} {w : World} {K : PySem.W.Frag} {mg : Str → Option Value} {base : Heap} (T : Bi P K mg) : BodyOk P w K mg base n_from_digits "from_digits" s_from_digits 0 f_from_digits_b := fun f cdv A outer s H E B hr tk pf => by
  have nd := sc_from_digits.nd
  exact (css_cons (cs_set 2 nd ce_int) (css_cons (cs_for (ws := [3]) pf rfl (ci_rev T.b_reversed (ce_v 0)) (cg_name 3 nd) (css_cons (cs_set 2 nd (ce_add (cb (ce_mul (cb_v 2) (cb_v 1))) (cb_v 3))) (css_no 3 css_nil))) (css_one (cs_ret (ce_v 2)))))

/-! ## Field._multiplied: 0 self, 1 x, 2 y, 3 product -/
abbrev s_Field__multiplied : Stmt := inClass (top 27) 1
abbrev n_Field__multiplied : List Str := ["self", "x", "y", "product"]
theorem sc_Field__multiplied : FnScope n_Field__multiplied ["self", "x", "y"] (defScope s_Field__multiplied) := ⟨rfl, rfl, rfl, by decide +kernel, rfl, by decide +kernel, by decide +kernel⟩
noncomputable def f_Field__multiplied_b : Rho → R Out := (mSeq (mSet 3 (mCall 3 f_polynomial_product (mCons (mUn (dFld 0 0) (mVarB 0)) (mCons (mCall 3 f_digits_of (mCons (mVar 1) (mCons (mUn (dFld 0 0) (mVarB 0)) (mCons (mUn (dFld 0 2) (mVarB 0)) mNil)))) (mCons (mCall 3 f_digits_of (mCons (mVar 2) (mCons (mUn (dFld 0 0) (mVarB 0)) (mCons (mUn (dFld 0 2) (mVarB 0)) mNil)))) mNil))))) (mRet (mCall 2 f_from_digits (mCons (mBin dIx (mCall 3 f_polynomial_rest (mCons (mUn (dFld 0 0) (mVarB 0)) (mCons (mVar 3) (mCons (mUn (dFld 0 1) (mVarB 0)) mNil)))) (mC (.int 1))) (mCons (mUn (dFld 0 0) (mVarB 0)) mNil)))))
noncomputable def f_Field__multiplied : List D → R D := mFun 4 3 f_Field__multiplied_b
set_option maxRecDepth 100000 in
set_option maxHeartbeats 8000000 in
theorem b_Field__multiplied {P : Program} {w : World} {K : PySem.W.Frag} {mg : Str → Option Value} {base : Heap} (T : Bi P K mg) (G_digits_of : Cal P w K mg base 2 "digits_of" 3 f_digits_of) (G_from_digits : Cal P w K mg base 1 "from_digits" 2 f_from_digits) (G_polynomial_product : Cal P w K mg base 2 "polynomial_product" 3 f_polynomial_product) (G_polynomial_rest : Cal P w K mg base 2 "polynomial_rest" 3 f_polynomial_rest) : BodyOk P w K mg base n_Field__multiplied "Field._multiplied" s_Field__multiplied 2 f_Field__multiplied_b := fun f cdv A outer s H E B hr tk pf => by
  have nd := sc_Field__multiplied.nd
  exact (css_cons (cs_set 3 nd (ce_call G_polynomial_product hr (by decide) tk (ca_cons (ce_fld 0 0 T.c_Field (cb_v 0)) (ca_cons (ce_call G_digits_of hr (by decide) tk (ca_cons (ce_v 1) (ca_cons (ce_fld 0 0 T.c_Field (cb_v 0)) (ca_cons (ce_fld 0 2 T.c_Field (cb_v 0)) ca_nil)))) (ca_cons (ce_call G_digits_of hr (by decide) tk (ca_cons (ce_v 2) (ca_cons (ce_fld 0 0 T.c_Field (cb_v 0)) (ca_cons (ce_fld 0 2 T.c_Field (cb_v 0)) ca_nil)))) ca_nil))))) (css_one (cs_ret (ce_call G_from_digits hr (by decide) tk (ca_cons (ce_ix (cb (ce_call G_polynomial_rest hr (by decide) tk (ca_cons (ce_fld 0 0 T.c_Field (cb_v 0)) (ca_cons (ce_v 3) (ca_cons (ce_fld 0 1 T.c_Field (cb_v 0)) ca_nil))))) (cb ce_int)) (ca_cons (ce_fld 0 0 T.c_Field (cb_v 0)) ca_nil))))))

/-! ## Field._powers_from: 0 self, 1 x, 2 found, 3 power -/
abbrev s_Field__powers_from : Stmt := inClass (top 27) 2
abbrev n_Field__powers_from : List Str := ["self", "x", "found", "power"]
theorem sc_Field__powers_from : FnScope n_Field__powers_from ["self", "x"] (defScope s_Field__powers_from) := ⟨rfl, rfl, rfl, by decide +kernel, rfl, by decide +kernel, by decide +kernel⟩
noncomputable def f_Field__powers_from_b : Rho → R Out := (mSeq (mPar2 2 3 (mOw (mLst (mCons (mC (.int 1)) mNil))) (mSh (mVar 1))) (mSeq (mWhile (mTb (mBin dNe (mVarB 3) (mC (.int 1)))) (mSeq (mApp 2 (mVar 3)) (mSet 3 (mMeth 0 3 f_Field__multiplied (mVar 0) (mCons (mVar 3) (mCons (mVar 1) mNil)))))) (mRet (mTupC (mVarB 2)))))
noncomputable def f_Field__powers_from : List D → R D := mFun 4 2 f_Field__powers_from_b
set_option maxRecDepth 100000 in
set_option maxHeartbeats 8000000 in
theorem b_Field__powers_from {P : Program} {w : World} {K : PySem.W.Frag} {mg : Str → Option Value} {base : Heap} (T : Bi P K mg) (M_Field__multiplied : CalM P w K mg base 3 0 "_multiplied" 3 f_Field__multiplied) : BodyOk P w K mg base n_Field__powers_from "Field._powers_from" s_Field__powers_from 3 f_Field__powers_from_b := fun f cdv A outer s H E B hr tk pf => by
  have nd := sc_Field__powers_from.nd
  exact (css_cons (cs_par2 2 3 rfl nd (ck_ow (co_lst (ca_cons ce_int ca_nil))) (ck_sh (ce_v 1))) (css_cons (cs_while pf (ct_ne hr.room.units (cb_v 3) (cb ce_int)) (css_cons (cs_app 2 (pe_bm PySem.F.plainAttrs_list PySem.F.slot_list_append PySem.F.type_list_append mt_append (pv 2) (pa_cons (ce_v 3) pa_nil))) (css_one (cs_set 3 nd (ce_meth M_Field__multiplied hr (by decide) tk (ce_v 0) (ca_cons (ce_v 3) (ca_cons (ce_v 1) ca_nil))))))) (css_one (cs_ret (ce_tuple (cb_v 2) T.b_tuple)))))

/-! ## Field.__init__: 0 self, 1 p, 2 modulus, 3 at, 4 places, 5 one -/
abbrev s_Field___init__ : Stmt := inClass (top 27) 0
abbrev n_Field___init__ : List Str := ["self", "p", "modulus", "at", "places", "one"]
theorem sc_Field___init__ : FnScope n_Field___init__ ["self", "p", "modulus"] (defScope s_Field___init__) := ⟨rfl, rfl, rfl, by decide +kernel, rfl, by decide +kernel, by decide +kernel⟩
noncomputable def f_Field___init___b : Rho → R Out := (mSeq (mIf (mNotT (mTt (mCall 1 f_is_small_prime (mCons (mVar 1) mNil)))) mStuck mSkip) (mSeq (mSet 3 (mCall 2 f_wrong_modulus (mCons (mVar 1) (mCons (mVar 2) mNil)))) (mSeq (mIf (mTb (mBin dIsNot (mVarB 3) (mC .non))) mStuck mSkip) (mSeq (mSelf 0 0 0 (mVar 1)) (mSeq (mSelf 0 0 1 (mTupC (mVarB 2))) (mSeq (mSelf 0 0 2 (mBin dSub (mBi dLen (mCons (mFldS 0 0 1) mNil)) (mC (.int 1)))) (mSeq (mSelf 0 0 3 (mCall 2 f_small_power (mCons (mVar 1) (mCons (mFldS 0 0 2) mNil)))) (mSeq (mSelf 0 0 4 (mC (.int 1))) (mSeq (mSelf 0 0 5 (mMethS 0 0 2 f_Field__powers_from (mCons (mC (.int 1)) mNil))) (mSeq (mWhile (mTb (mBin dLt (mBi dLen (mCons (mFldS 0 0 5) mNil)) (mBin dSub (mFldS 0 0 3) (mC (.int 1))))) (mSeq (mSelfAdd 0 0 4 (mC (.int 1))) (mSelf 0 0 5 (mMethS 0 0 2 f_Field__powers_from (mCons (mFldS 0 0 4) mNil))))) (mSeq (mOwn 4 (mMulL (mFrz (mLst (mCons (mC (.int 0)) mNil))) (mFldS 0 0 3))) (mSeq (mFor (mArgs dEnum (mCons (mFldS 0 0 5) mNil)) (bTup (bCons (bName 3) (bCons (bName 5) bNil))) (mSeq (mStore 4 (mVar 3) (mVarB 5)) (mNo 5 (mNo 3 mSkip)))) (mSelf 0 0 6 (mTupC (mVarB 4)))))))))))))))
noncomputable def f_Field___init__ : List D → R (List D) := mInit 0 6 3 f_Field___init___b
set_option maxRecDepth 100000 in
set_option maxHeartbeats 8000000 in
theorem b_Field___init__ {P : Program} {w : World} {K : PySem.W.Frag} {mg : Str → Option Value} {base : Heap} (T : Bi P K mg) (G_is_small_prime : Cal P w K mg base 2 "is_small_prime" 1 f_is_small_prime) (G_small_power : Cal P w K mg base 1 "small_power" 2 f_small_power) (G_wrong_modulus : Cal P w K mg base 4 "wrong_modulus" 2 f_wrong_modulus) (M_Field__powers_from : CalM P w K mg base 4 0 "_powers_from" 2 f_Field__powers_from) : BodyOk P w K mg base n_Field___init__ "Field.__init__" s_Field___init__ 4 f_Field___init___b := fun f cdv A outer s H E B hr tk pf => by
  have nd := sc_Field___init__.nd
  exact (css_cons (cs_if (ct_not (ct_tru (cb (ce_call G_is_small_prime hr (by decide) tk (ca_cons (ce_v 1) ca_nil))))) (css_one cs_stuck) css_nil) (css_cons (cs_set 3 nd (ce_call G_wrong_modulus hr (by decide) tk (ca_cons (ce_v 1) (ca_cons (ce_v 2) ca_nil)))) (css_cons (cs_if (ct_isnot (cb_v 3) (cb ce_non)) (css_one cs_stuck) css_nil) (css_cons (cs_self 0 0 0 T.c_Field (ce_v 1)) (css_cons (cs_self 0 0 1 T.c_Field (ce_tuple (cb_v 2) T.b_tuple)) (css_cons (cs_self 0 0 2 T.c_Field (ce_sub (cb (ce_len (cab_cons (cb (ce_fldS 0 0 1 T.c_Field)) cab_nil) T.b_len)) (cb ce_int))) (css_cons (cs_self 0 0 3 T.c_Field (ce_call G_small_power hr (by decide) tk (ca_cons (ce_v 1) (ca_cons (ce_fldS 0 0 2 T.c_Field) ca_nil)))) (css_cons (cs_self 0 0 4 T.c_Field ce_int) (css_cons (cs_self 0 0 5 T.c_Field (ce_methS 0 M_Field__powers_from hr (by decide) tk (ca_cons ce_int ca_nil))) (css_cons (cs_while pf (ct_lt (cb (ce_len (cab_cons (cb (ce_fldS 0 0 5 T.c_Field)) cab_nil) T.b_len)) (cb (ce_sub (cb (ce_fldS 0 0 3 T.c_Field)) (cb ce_int)))) (css_cons (cs_selfAdd 0 0 4 T.c_Field ce_int) (css_one (cs_self 0 0 5 T.c_Field (ce_methS 0 M_Field__powers_from hr (by decide) tk (ca_cons (ce_fldS 0 0 4 T.c_Field) ca_nil)))))) (css_cons (cs_own 4 nd (co_mul (cb (ce_frz (co_lst (ca_cons ce_int ca_nil)))) (cb (ce_fldS 0 0 3 T.c_Field)))) (css_cons (cs_for (ws := [3, 5]) pf rfl (ci_enum T.b_enumerate (ca_cons (ce_fldS 0 0 5 T.c_Field) ca_nil)) (cg_tup rfl (cgs_cons (cg_name 3 nd) (cgs_cons (cg_name 5 nd) cgs_nil)) (bnS (bnS bn0))) (css_cons (cs_store 4 (ce_v 3) (pv 4) (cb_v 5)) (css_no 5 (css_no 3 css_nil)))) (css_one (cs_self 0 0 6 T.c_Field (ce_tuple (cb_v 4) T.b_tuple)))))))))))))))

/-! ## Field.times: 0 self, 1 x, 2 y -/
abbrev s_Field_times : Stmt := inClass (top 27) 8
abbrev n_Field_times : List Str := ["self", "x", "y"]
theorem sc_Field_times : FnScope n_Field_times ["self", "x", "y"] (defScope s_Field_times) := ⟨rfl, rfl, rfl, by decide +kernel, rfl, by decide +kernel, by decide +kernel⟩
def f_Field_times_b : Rho → R Out := (mSeq (mIf (mOrT (mTb (mBin dEq (mVarB 1) (mC (.int 0)))) (mTb (mBin dEq (mVarB 2) (mC (.int 0))))) (mRet (mC (.int 0))) mSkip) (mRet (mBin dIx (mUn (dFld 0 5) (mVarB 0)) (mBin dMod (mBin dAdd (mBin dIx (mUn (dFld 0 6) (mVarB 0)) (mVarB 1)) (mBin dIx (mUn (dFld 0 6) (mVarB 0)) (mVarB 2))) (mBin dSub (mUn (dFld 0 3) (mVarB 0)) (mC (.int 1)))))))
def f_Field_times : List D → R D := mFun 3 3 f_Field_times_b
set_option maxRecDepth 100000 in
set_option maxHeartbeats 8000000 in
theorem b_Field_times {P : Program} {w : World} {K : PySem.W.Frag} {mg : Str → Option Value} {base : Heap} (T : Bi P K mg) : BodyOk P w K mg base n_Field_times "Field.times" s_Field_times 0 f_Field_times_b := fun f cdv A outer s H E B hr tk pf => by
  have nd := sc_Field_times.nd
  exact (css_cons (cs_if (PW.pt (cw_or (ct_eq hr.room.units (cb_v 1) (cb ce_int)) (cw_or1 (ct_eq hr.room.units (cb_v 2) (cb ce_int))))) (css_one (cs_ret ce_int)) css_nil) (css_one (cs_ret (ce_ix (cb (ce_fld 0 5 T.c_Field (cb_v 0))) (cb (ce_mod (cb (ce_add (cb (ce_ix (cb (ce_fld 0 6 T.c_Field (cb_v 0))) (cb_v 1))) (cb (ce_ix (cb (ce_fld 0 6 T.c_Field (cb_v 0))) (cb_v 2))))) (cb (ce_sub (cb (ce_fld 0 3 T.c_Field (cb_v 0))) (cb ce_int)))))))))

/-! ## made_products: 0 field, 1 factors, 2 found, 3 row, 4 at, 5 one, 6 product -/
abbrev s_made_products : Stmt := top 28
abbrev n_made_products : List Str := ["field", "factors", "found", "row", "at", "one", "product"]
theorem sc_made_products : FnScope n_made_products ["field", "factors"] (defScope s_made_products) := ⟨rfl, rfl, rfl, by decide +kernel, rfl, by decide +kernel, by decide +kernel⟩
noncomputable def f_made_products_b : Rho → R Out := (mSeq (mOwnD 2 (mDc (mergeD [] [(.inl 1, .bl true)]))) (mSeq (mPar2 3 4 (mOw (mLst (mCons (mC (.int 1)) mNil))) (mSh (mC (.int 0)))) (mSeq (mWhile (mTb (mBin dLt (mVarB 4) (mBi dLen (mCons (mVarB 3) mNil)))) (mSeq (mFor (mIter (mVar 1)) (bName 5) (mSeq (mSet 6 (mMeth 0 3 f_Field_times (mVar 0) (mCons (mBin dIx (mVarB 3) (mVarB 4)) (mCons (mVar 5) mNil)))) (mSeq (mIf (mTb (mDIn true 2 (mVarB 6))) (mSeq (mDPut 2 (mC (.bl true)) (mVarB 6)) (mApp 3 (mVar 6))) mSkip) (mNo 6 (mNo 5 mSkip))))) (mSeq (mAug 4 dIAdd (mC (.int 1))) (mNo 6 (mNo 5 mSkip))))) (mRet (mTupC (mBi dSortI (mCons (mVarB 3) mNil)))))))
noncomputable def f_made_products : List D → R D := mFun 7 2 f_made_products_b
set_option maxRecDepth 100000 in
set_option maxHeartbeats 8000000 in
theorem b_made_products {P : Program} {w : World} {K : PySem.W.Frag} {mg : Str → Option Value} {base : Heap} (T : Bi P K mg) (M_Field_times : CalM P w K mg base 1 0 "times" 3 f_Field_times) : BodyOk P w K mg base n_made_products "made_products" s_made_products 1 f_made_products_b := fun f cdv A outer s H E B hr tk pf => by
  have nd := sc_made_products.nd
  exact (css_cons (cs_ownD 2 nd (ce_dcf (l := [(.inl 1, .bl true)]) (pps_cons pe_int pe_bl pps_nil))) (css_cons (cs_par2 3 4 rfl nd (ck_ow (co_lst (ca_cons ce_int ca_nil))) (ck_sh ce_int)) (css_cons (cs_while pf (ct_lt (cb_v 4) (cb (ce_len (cab_cons (cb_v 3) cab_nil) T.b_len))) (css_cons (cs_for (ws := [5]) pf rfl (ci_seq (ce_v 1)) (cg_name 5 nd) (css_cons (cs_set 6 nd (ce_meth M_Field_times hr (by decide) tk (ce_v 0) (ca_cons (ce_ix (cb_v 3) (cb_v 4)) (ca_cons (ce_v 5) ca_nil)))) (css_cons (cs_if (ct_dnin 2 hr.room.units (cb_v 6) (pv 2)) (css_cons (cs_dput 2 hr.room.units ce_bl (pv 2) (cb_v 6)) (css_one (cs_app 3 (pe_bm PySem.F.plainAttrs_list PySem.F.slot_list_append PySem.F.type_list_append mt_append (pv 3) (pa_cons (ce_v 6) pa_nil))))) css_nil) (css_no 6 (css_no 5 css_nil))))) (css_cons (cs_iadd 4 nd (cb ce_int)) (css_no 6 (css_no 5 css_nil))))) (css_one (cs_ret (ce_tuple (cb (ce_sortI (cab_cons (cb_v 3) cab_nil) T.b_sorted)) T.b_tuple))))))

/-! ## _law_digits: 0 _law_w, 1 _law_x -/
abbrev s_l_digits : Stmt := top 41
abbrev n_l_digits : List Str := ["_law_w", "_law_x"]
theorem sc_l_digits : FnScope n_l_digits ["_law_w", "_law_x"] (defScope s_l_digits) := ⟨rfl, rfl, rfl, by decide +kernel, rfl, by decide +kernel, by decide +kernel⟩
def f_l_digits_b : Rho → R Out := (mRet (mCut (mCall 3 f_l_monic (mCons (mBin dIx (mVarB 0) (mC (.int 0))) (mCons (mBin dSub (mBi dLen (mCons (mBin dIx (mVarB 0) (mC (.int 1))) mNil)) (mC (.int 1))) (mCons (mVar 1) mNil)))) mNone (mPart (mUn dNeg (mC (.int 1))))))
def f_l_digits : List D → R D := mFun 2 2 f_l_digits_b
set_option maxRecDepth 100000 in
set_option maxHeartbeats 8000000 in
theorem b_l_digits {P : Program} {w : World} {K : PySem.W.Frag} {mg : Str → Option Value} {base : Heap} (T : Bi P K mg) (G_l_monic : Cal P w K mg base 1 "_law_monic" 3 f_l_monic) : BodyOk P w K mg base n_l_digits "_law_digits" s_l_digits 1 f_l_digits_b := fun f cdv A outer s H E B hr tk pf => by
  have nd := sc_l_digits.nd
  exact (css_one (cs_ret (ce_cut (cb (ce_call G_l_monic hr (by decide) tk (ca_cons (ce_ix (cb_v 0) (cb ce_int)) (ca_cons (ce_sub (cb (ce_len (cab_cons (cb (ce_ix (cb_v 0) (cb ce_int))) cab_nil) T.b_len)) (cb ce_int)) (ca_cons (ce_v 1) ca_nil))))) cp_none (cp_some (cb (ce_neg (cb ce_int)))))))

/-! ## _law_number: 0 _law_w, 1 _law_digits_here, 2 _law_found, 3 _law_one -/
abbrev s_l_number : Stmt := top 42
abbrev n_l_number : List Str := ["_law_w", "_law_digits_here", "_law_found", "_law_one"]
theorem sc_l_number : FnScope n_l_number ["_law_w", "_law_digits_here"] (defScope s_l_number) := ⟨rfl, rfl, rfl, by decide +kernel, rfl, by decide +kernel, by decide +kernel⟩
def f_l_number_b : Rho → R Out := (mSeq (mSet 2 (mC (.int 0))) (mSeq (mFor (mIter (mRevA (mVarB 1))) (bName 3) (mSeq (mSet 2 (mBin dAdd (mBin dMul (mVarB 2) (mBin dIx (mVarB 0) (mC (.int 0)))) (mVarB 3))) (mNo 3 mSkip))) (mRet (mVar 2))))
def f_l_number : List D → R D := mFun 4 2 f_l_number_b
set_option maxRecDepth 100000 in
set_option maxHeartbeats 8000000 in
theorem b_l_number {P : Program} {w : World} {K : PySem.W.Frag} {mg : Str → Option Value} {base : Heap} (T : Bi P K mg) : BodyOk P w K mg base n_l_number "_law_number" s_l_number 0 f_l_number_b := fun f cdv A outer s H E B hr tk pf => by
  have nd := sc_l_number.nd
  exact (css_cons (cs_set 2 nd ce_int) (css_cons (cs_for (ws := [3]) pf rfl (ci_seq (ce_rev (cb_v 1))) (cg_name 3 nd) (css_cons (cs_set 2 nd (ce_add (cb (ce_mul (cb_v 2) (cb (ce_ix (cb_v 0) (cb ce_int))))) (cb_v 3))) (css_no 3 css_nil))) (css_one (cs_ret (ce_v 2)))))

/-! ## _law_times: 0 _law_w, 1 _law_x, 2 _law_y, 3 _law_product, 4 _law_at, 5 _law_one, 6 _law_further, 7 _law_other -/
abbrev s_l_times : Stmt := top 45
abbrev n_l_times : List Str := ["_law_w", "_law_x", "_law_y", "_law_product", "_law_at", "_law_one", "_law_further", "_law_other"]
theorem sc_l_times : FnScope n_l_times ["_law_w", "_law_x", "_law_y"] (defScope s_l_times) := ⟨rfl, rfl, rfl, by decide +kernel, rfl, by decide +kernel, by decide +kernel⟩
def f_l_times_b : Rho → R Out := (mSeq (mOwn 3 (mMulL (mFrz (mLst (mCons (mC (.int 0)) mNil))) (mBin dMul (mC (.int 2)) (mBi dLen (mCons (mBin dIx (mVarB 0) (mC (.int 1))) mNil))))) (mSeq (mFor (mArgs dEnum (mCons (mCall 2 f_l_digits (mCons (mVar 0) (mCons (mVar 1) mNil))) mNil)) (bTup (bCons (bName 4) (bCons (bName 5) bNil))) (mSeq (mFor (mArgs dEnum (mCons (mCall 2 f_l_digits (mCons (mVar 0) (mCons (mVar 2) mNil))) mNil)) (bTup (bCons (bName 6) (bCons (bName 7) bNil))) (mSeq (mStore 3 (mBin dMod (mBi dInt (mCons (mBin dAdd (mBin dIx (mVarB 3) (mBin dAdd (mVarB 4) (mVarB 6))) (mBin dMul (mVarB 5) (mVarB 7))) mNil)) (mBin dIx (mVarB 0) (mC (.int 0)))) (mBin dAdd (mVarB 4) (mVarB 6))) (mNo 7 (mNo 6 mSkip)))) (mNo 7 (mNo 6 (mNo 5 (mNo 4 mSkip)))))) (mFrzS 3 (mRet (mCall 2 f_l_number (mCons (mVar 0) (mCons (mCall 3 f_l_rest (mCons (mBin dIx (mVarB 0) (mC (.int 0))) (mCons (mVar 3) (mCons (mBin dIx (mVarB 0) (mC (.int 1))) mNil)))) mNil)))))))
def f_l_times : List D → R D := mFun 8 3 f_l_times_b
set_option maxRecDepth 100000 in
set_option maxHeartbeats 8000000 in
theorem b_l_times {P : Program} {w : World} {K : PySem.W.Frag} {mg : Str → Option Value} {base : Heap} (T : Bi P K mg) (G_l_digits : Cal P w K mg base 2 "_law_digits" 2 f_l_digits) (G_l_number : Cal P w K mg base 1 "_law_number" 2 f_l_number) (G_l_rest : Cal P w K mg base 1 "_law_rest" 3 f_l_rest) : BodyOk P w K mg base n_l_times "_law_times" s_l_times 2 f_l_times_b := fun f cdv A outer s H E B hr tk pf => by
  have nd := sc_l_times.nd
  exact (css_cons (cs_own 3 nd (co_mul (cb (ce_frz (co_lst (ca_cons ce_int ca_nil)))) (cb (ce_mul (cb ce_int) (cb (ce_len (cab_cons (cb (ce_ix (cb_v 0) (cb ce_int))) cab_nil) T.b_len)))))) (css_cons (cs_for (ws := [4, 5]) pf rfl (ci_enum T.b_enumerate (ca_cons (ce_call G_l_digits hr (by decide) tk (ca_cons (ce_v 0) (ca_cons (ce_v 1) ca_nil))) ca_nil)) (cg_tup rfl (cgs_cons (cg_name 4 nd) (cgs_cons (cg_name 5 nd) cgs_nil)) (bnS (bnS bn0))) (css_cons (cs_for (ws := [6, 7]) pf rfl (ci_enum T.b_enumerate (ca_cons (ce_call G_l_digits hr (by decide) tk (ca_cons (ce_v 0) (ca_cons (ce_v 2) ca_nil))) ca_nil)) (cg_tup rfl (cgs_cons (cg_name 6 nd) (cgs_cons (cg_name 7 nd) cgs_nil)) (bnS (bnS bn0))) (css_cons (cs_store 3 (ce_mod (cb (ce_intc (cab_cons (cb (ce_add (cb (ce_ix (cb_v 3) (cb (ce_add (cb_v 4) (cb_v 6))))) (cb (ce_mul (cb_v 5) (cb_v 7))))) cab_nil) T.b_int)) (cb (ce_ix (cb_v 0) (cb ce_int)))) (pv 3) (cb (ce_add (cb_v 4) (cb_v 6)))) (css_no 7 (css_no 6 css_nil)))) (css_no 7 (css_no 6 (css_no 5 (css_no 4 css_nil)))))) (css_frz 3 (css_one (cs_ret (ce_call G_l_number hr (by decide) tk (ca_cons (ce_v 0) (ca_cons (ce_call G_l_rest hr (by decide) tk (ca_cons (ce_ix (cb_v 0) (cb ce_int)) (ca_cons (ce_v 3) (ca_cons (ce_ix (cb_v 0) (cb ce_int)) ca_nil)))) ca_nil))))))))

/-! ## _law_products: 0 _law_w, 1 _law_elements, 2 _law_found, 3 _law_at, 4 _law_one, 5 _law_product -/
abbrev s_l_products : Stmt := top 48
abbrev n_l_products : List Str := ["_law_w", "_law_elements", "_law_found", "_law_at", "_law_one", "_law_product"]
theorem sc_l_products : FnScope n_l_products ["_law_w", "_law_elements"] (defScope s_l_products) := ⟨rfl, rfl, rfl, by decide +kernel, rfl, by decide +kernel, by decide +kernel⟩
noncomputable def f_l_products_b : Rho → R Out := (mSeq (mPar2 2 3 (mSh (mFrz (mLst (mCons (mC (.int 1)) mNil)))) (mSh (mC (.int 0)))) (mSeq (mWhile (mAndT (mTb (mBin dLt (mVarB 3) (mBi dLen (mCons (mVarB 2) mNil)))) (mTb (mBin dLt (mVarB 3) (mC (.int 50))))) (mSeq (mFor (mIter (mVar 1)) (bName 4) (mSeq (mSet 5 (mCall 3 f_l_times (mCons (mVar 0) (mCons (mBin dIx (mVarB 2) (mVarB 3)) (mCons (mVar 4) mNil))))) (mSeq (mIf (mTb (mBin (dInG true) (mVarB 5) (mVarB 2))) (mSet 2 (mBin dAdd (mVarB 2) (mFrz (mLst (mCons (mVar 5) mNil))))) mSkip) (mNo 5 (mNo 4 mSkip))))) (mSeq (mSet 3 (mBin dAdd (mVarB 3) (mC (.int 1)))) (mNo 5 (mNo 4 mSkip))))) (mRet (mTupC (mBi dSortI (mCons (mVarB 2) mNil))))))
noncomputable def f_l_products : List D → R D := mFun 6 2 f_l_products_b
set_option maxRecDepth 100000 in
set_option maxHeartbeats 8000000 in
theorem b_l_products {P : Program} {w : World} {K : PySem.W.Frag} {mg : Str → Option Value} {base : Heap} (T : Bi P K mg) (G_l_times : Cal P w K mg base 3 "_law_times" 3 f_l_times) : BodyOk P w K mg base n_l_products "_law_products" s_l_products 3 f_l_products_b := fun f cdv A outer s H E B hr tk pf => by
  have nd := sc_l_products.nd
  exact (css_cons (cs_par2 2 3 rfl nd (ck_sh (ce_frz (co_lst (ca_cons ce_int ca_nil)))) (ck_sh ce_int)) (css_cons (cs_while pf (PW.pt (cw_and (ct_lt (cb_v 3) (cb (ce_len (cab_cons (cb_v 2) cab_nil) T.b_len))) (cw_and1 (ct_lt (cb_v 3) (cb ce_int))))) (css_cons (cs_for (ws := [4]) pf rfl (ci_seq (ce_v 1)) (cg_name 4 nd) (css_cons (cs_set 5 nd (ce_call G_l_times hr (by decide) tk (ca_cons (ce_v 0) (ca_cons (ce_ix (cb_v 2) (cb_v 3)) (ca_cons (ce_v 4) ca_nil))))) (css_cons (cs_if (ct_notin (cb_v 5) (cb_v 2)) (css_one (cs_set 2 nd (ce_add (cb_v 2) (cb (ce_frz (co_lst (ca_cons (ce_v 5) ca_nil))))))) css_nil) (css_no 5 (css_no 4 css_nil))))) (css_cons (cs_set 3 nd (ce_add (cb_v 3) (cb ce_int))) (css_no 5 (css_no 4 css_nil))))) (css_one (cs_ret (ce_tuple (cb (ce_sortI (cab_cons (cb_v 2) cab_nil) T.b_sorted)) T.b_tuple)))))

/-! ## _law_order: 0 _law_w, 1 _law_x, 2 _law_many, 3 _law_turn, 4 _law_order_here, 5 _law_power_here -/
abbrev s_l_order : Stmt := top 49
abbrev n_l_order : List Str := ["_law_w", "_law_x", "_law_many", "_law_turn", "_law_order_here", "_law_power_here"]
theorem sc_l_order : FnScope n_l_order ["_law_w", "_law_x", "_law_many"] (defScope s_l_order) := ⟨rfl, rfl, rfl, by decide +kernel, rfl, by decide +kernel, by decide +kernel⟩
def f_l_order_b : Rho → R Out := (mSeq (mPar2 4 5 (mSh (mC (.int 1))) (mSh (mVar 1))) (mSeq (mFor (mArgs dRange1 (mCons (mVar 2) mNil)) (bName 3) (mSeq (mIf (mTb (mBin dNe (mVarB 5) (mC (.int 1)))) (mPar2 5 4 (mSh (mCall 3 f_l_times (mCons (mVar 0) (mCons (mVar 5) (mCons (mVar 1) mNil))))) (mSh (mBin dAdd (mVarB 4) (mC (.int 1))))) mSkip) (mNo 3 mSkip))) (mRet (mVar 4))))
def f_l_order : List D → R D := mFun 6 3 f_l_order_b
set_option maxRecDepth 100000 in
set_option maxHeartbeats 8000000 in
theorem b_l_order {P : Program} {w : World} {K : PySem.W.Frag} {mg : Str → Option Value} {base : Heap} (T : Bi P K mg) (G_l_times : Cal P w K mg base 3 "_law_times" 3 f_l_times) : BodyOk P w K mg base n_l_order "_law_order" s_l_order 3 f_l_order_b := fun f cdv A outer s H E B hr tk pf => by
  have nd := sc_l_order.nd
  exact (css_cons (cs_par2 4 5 rfl nd (ck_sh ce_int) (ck_sh (ce_v 1))) (css_cons (cs_for (ws := [3]) pf rfl (ci_range1 T.b_range (ca_cons (ce_v 2) ca_nil)) (cg_name 3 nd) (css_cons (cs_if (ct_ne hr.room.units (cb_v 5) (cb ce_int)) (css_one (cs_par2 5 4 rfl nd (ck_sh (ce_call G_l_times hr (by decide) tk (ca_cons (ce_v 0) (ca_cons (ce_v 5) (ca_cons (ce_v 1) ca_nil))))) (ck_sh (ce_add (cb_v 4) (cb ce_int))))) css_nil) (css_no 3 css_nil))) (css_one (cs_ret (ce_v 4)))))

/-! ## _law_raised: 0 _law_w, 1 _law_x, 2 _law_times_here, 3 _law_turn, 4 _law_found, 5 _law_square -/
abbrev s_l_raised : Stmt := top 46
abbrev n_l_raised : List Str := ["_law_w", "_law_x", "_law_times_here", "_law_turn", "_law_found", "_law_square"]
theorem sc_l_raised : FnScope n_l_raised ["_law_w", "_law_x", "_law_times_here"] (defScope s_l_raised) := ⟨rfl, rfl, rfl, by decide +kernel, rfl, by decide +kernel, by decide +kernel⟩
def f_l_raised_b : Rho → R Out := (mSeq (mPar2 4 5 (mSh (mC (.int 1))) (mSh (mVar 1))) (mSeq (mFor (mArgs dRange1 (mCons (mC (.int 64)) mNil)) (bName 3) (mSeq (mIf (mTb (mBin dEq (mBin dMod (mBi dInt (mCons (mVarB 2) mNil)) (mC (.int 2))) (mC (.int 1)))) (mSet 4 (mCall 3 f_l_times (mCons (mVar 0) (mCons (mVar 4) (mCons (mVar 5) mNil))))) mSkip) (mSeq (mPar2 5 2 (mSh (mCall 3 f_l_times (mCons (mVar 0) (mCons (mVar 5) (mCons (mVar 5) mNil))))) (mSh (mBin dDiv (mVarB 2) (mC (.int 2))))) (mSeq (mIf (mTb (mBin dEq (mVarB 2) (mC (.int 0)))) (mRet (mVar 4)) mSkip) (mNo 3 mSkip))))) (mRet (mVar 4))))
def f_l_raised : List D → R D := mFun 6 3 f_l_raised_b
set_option maxRecDepth 100000 in
set_option maxHeartbeats 8000000 in
theorem b_l_raised {P : Program} {w : World} {K : PySem.W.Frag} {mg : Str → Option Value} {base : Heap} (T : Bi P K mg) (G_l_times : Cal P w K mg base 3 "_law_times" 3 f_l_times) : BodyOk P w K mg base n_l_raised "_law_raised" s_l_raised 3 f_l_raised_b := fun f cdv A outer s H E B hr tk pf => by
  have nd := sc_l_raised.nd
  exact (css_cons (cs_par2 4 5 rfl nd (ck_sh ce_int) (ck_sh (ce_v 1))) (css_cons (cs_for (ws := [3]) pf rfl (ci_range1 T.b_range (ca_cons ce_int ca_nil)) (cg_name 3 nd) (css_cons (cs_if (ct_eq hr.room.units (cb (ce_mod (cb (ce_intc (cab_cons (cb_v 2) cab_nil) T.b_int)) (cb ce_int))) (cb ce_int)) (css_one (cs_set 4 nd (ce_call G_l_times hr (by decide) tk (ca_cons (ce_v 0) (ca_cons (ce_v 4) (ca_cons (ce_v 5) ca_nil)))))) css_nil) (css_cons (cs_par2 5 2 rfl nd (ck_sh (ce_call G_l_times hr (by decide) tk (ca_cons (ce_v 0) (ca_cons (ce_v 5) (ca_cons (ce_v 5) ca_nil))))) (ck_sh (ce_div (cb_v 2) (cb ce_int)))) (css_cons (cs_if (ct_eq hr.room.units (cb_v 2) (cb ce_int)) (css_one (cs_ret (ce_v 4))) css_nil) (css_no 3 css_nil))))) (css_one (cs_ret (ce_v 4)))))

/-! ## divisors_of: 0 number, 1 one -/
abbrev s_divisors_of : Stmt := top 16
abbrev n_divisors_of : List Str := ["number", "one"]
theorem sc_divisors_of : FnScope n_divisors_of ["number"] (defScope s_divisors_of) := ⟨rfl, rfl, rfl, by decide +kernel, rfl, by decide +kernel, by decide +kernel⟩
def f_divisors_of_b : Rho → R Out := (mRet (mTupC (mFrz (mComp [1] (mArgs dRange2 (mCons (mC (.int 1)) (mCons (mBin dAdd (mVarB 0) (mC (.int 1))) mNil))) (bName 1) (mTb (mBin dEq (mBin dMod (mVarB 0) (mVarB 1)) (mC (.int 0)))) (mVar 1)))))
def f_divisors_of : List D → R D := mFun 2 1 f_divisors_of_b
set_option maxRecDepth 100000 in
set_option maxHeartbeats 8000000 in
theorem b_divisors_of {P : Program} {w : World} {K : PySem.W.Frag} {mg : Str → Option Value} {base : Heap} (T : Bi P K mg) : BodyOk P w K mg base n_divisors_of "divisors_of" s_divisors_of 0 f_divisors_of_b := fun f cdv A outer s H E B hr tk pf => by
  have nd := sc_divisors_of.nd
  exact (css_one (cs_ret (ce_tuple (cb (ce_frz (co_lc rfl nd ([("one", 1)] : List (Str × Nat)) (ci_range2 T.b_range (ca_cons ce_int (ca_cons (ce_add (cb_v 0) (cb ce_int)) ca_nil))) (blkOk_by (N := n_divisors_of) (sc := defScope s_divisors_of) (by decide +kernel)) (fun _ _ _ _ _ => (cg_name 1 nd)) (fun _ _ _ _ _ => (pts_one (ct_eq hr.room.units (cb (ce_mod (cb_v 0) (cb_v 1))) (cb ce_int)))) (fun _ _ _ _ _ => (ce_v 1))))) T.b_tuple)))

/-! ## Field.power: 0 self, 1 x, 2 times -/
abbrev s_Field_power : Stmt := inClass (top 27) 10
abbrev n_Field_power : List Str := ["self", "x", "times"]
theorem sc_Field_power : FnScope n_Field_power ["self", "x", "times"] (defScope s_Field_power) := ⟨rfl, rfl, rfl, by decide +kernel, rfl, by decide +kernel, by decide +kernel⟩
def f_Field_power_b : Rho → R Out := (mSeq (mIf (mOrT (mTb (mBin dEq (mVarB 2) (mC (.int 0)))) (mTb (mBin dEq (mVarB 1) (mC (.int 0))))) (mRet (mIfE (mTb (mBin dEq (mVarB 2) (mC (.int 0)))) (mC (.int 1)) (mC (.int 0)))) mSkip) (mRet (mBin dIx (mUn (dFld 0 5) (mVarB 0)) (mBin dMod (mBin dMul (mBin dIx (mUn (dFld 0 6) (mVarB 0)) (mVarB 1)) (mVarB 2)) (mBin dSub (mUn (dFld 0 3) (mVarB 0)) (mC (.int 1)))))))
def f_Field_power : List D → R D := mFun 3 3 f_Field_power_b
set_option maxRecDepth 100000 in
set_option maxHeartbeats 8000000 in
theorem b_Field_power {P : Program} {w : World} {K : PySem.W.Frag} {mg : Str → Option Value} {base : Heap} (T : Bi P K mg) : BodyOk P w K mg base n_Field_power "Field.power" s_Field_power 0 f_Field_power_b := fun f cdv A outer s H E B hr tk pf => by
  have nd := sc_Field_power.nd
  exact (css_cons (cs_if (PW.pt (cw_or (ct_eq hr.room.units (cb_v 2) (cb ce_int)) (cw_or1 (ct_eq hr.room.units (cb_v 1) (cb ce_int))))) (css_one (cs_ret (ce_if (ct_eq hr.room.units (cb_v 2) (cb ce_int)) ce_int ce_int))) css_nil) (css_one (cs_ret (ce_ix (cb (ce_fld 0 5 T.c_Field (cb_v 0))) (cb (ce_mod (cb (ce_mul (cb (ce_ix (cb (ce_fld 0 6 T.c_Field (cb_v 0))) (cb_v 1))) (cb_v 2))) (cb (ce_sub (cb (ce_fld 0 3 T.c_Field (cb_v 0))) (cb ce_int)))))))))

/-! ## all_subfields: 0 field, 1 found, 2 degree, 3 size, 4 x -/
abbrev s_all_subfields : Stmt := top 29
abbrev n_all_subfields : List Str := ["field", "found", "degree", "size", "x"]
theorem sc_all_subfields : FnScope n_all_subfields ["field"] (defScope s_all_subfields) := ⟨rfl, rfl, rfl, by decide +kernel, rfl, by decide +kernel, by decide +kernel⟩
def f_all_subfields_b : Rho → R Out := (mSeq (mOwn 1 (mLst mNil)) (mSeq (mFor (mIter (mCall 1 f_divisors_of (mCons (mUn (dFld 0 2) (mVarB 0)) mNil))) (bName 2) (mSeq (mSet 3 (mCall 2 f_small_power (mCons (mUn (dFld 0 0) (mVarB 0)) (mCons (mVar 2) mNil)))) (mSeq (mApp 1 (mTupC (mFrz (mComp [4] (mArgs dRange1 (mCons (mUn (dFld 0 3) (mVarB 0)) mNil)) (bName 4) (mTb (mBin dEq (mMeth 0 3 f_Field_power (mVar 0) (mCons (mVar 4) (mCons (mVar 3) mNil))) (mVarB 4))) (mVar 4))))) (mNo 3 (mNo 2 mSkip))))) (mRet (mTupC (mVarB 1)))))
def f_all_subfields : List D → R D := mFun 5 1 f_all_subfields_b
set_option maxRecDepth 100000 in
set_option maxHeartbeats 8000000 in
theorem b_all_subfields {P : Program} {w : World} {K : PySem.W.Frag} {mg : Str → Option Value} {base : Heap} (T : Bi P K mg) (G_divisors_of : Cal P w K mg base 1 "divisors_of" 1 f_divisors_of) (G_small_power : Cal P w K mg base 1 "small_power" 2 f_small_power) (M_Field_power : CalM P w K mg base 1 0 "power" 3 f_Field_power) : BodyOk P w K mg base n_all_subfields "all_subfields" s_all_subfields 1 f_all_subfields_b := fun f cdv A outer s H E B hr tk pf => by
  have nd := sc_all_subfields.nd
  exact (css_cons (cs_own 1 nd (co_lst ca_nil)) (css_cons (cs_for (ws := [2]) pf rfl (ci_seq (ce_call G_divisors_of hr (by decide) tk (ca_cons (ce_fld 0 2 T.c_Field (cb_v 0)) ca_nil))) (cg_name 2 nd) (css_cons (cs_set 3 nd (ce_call G_small_power hr (by decide) tk (ca_cons (ce_fld 0 0 T.c_Field (cb_v 0)) (ca_cons (ce_v 2) ca_nil)))) (css_cons (cs_app 1 (pe_bm PySem.F.plainAttrs_list PySem.F.slot_list_append PySem.F.type_list_append mt_append (pv 1) (pa_cons (ce_tuple (cb (ce_frz (co_lc rfl nd ([("x", 4)] : List (Str × Nat)) (ci_range1 T.b_range (ca_cons (ce_fld 0 3 T.c_Field (cb_v 0)) ca_nil)) (blkOk_by (N := n_all_subfields) (sc := defScope s_all_subfields) (by decide +kernel)) (fun _ _ _ _ _ => (cg_name 4 nd)) (fun _ _ _ _ _ => (pts_one (ct_eq hr.room.units (cb (ce_meth M_Field_power hr (by decide) takes0 (ce_v 0) (ca_cons (ce_v 4) (ca_cons (ce_v 3) ca_nil)))) (cb_v 4)))) (fun _ _ _ _ _ => (ce_v 4))))) T.b_tuple) pa_nil))) (css_no 3 (css_no 2 css_nil))))) (css_one (cs_ret (ce_tuple (cb_v 1) T.b_tuple)))))

/-! ## least_subfield: 0 field, 1 members, 2 lot, 3 one -/
abbrev s_least_subfield : Stmt := top 30
abbrev n_least_subfield : List Str := ["field", "members", "lot", "one"]
theorem sc_least_subfield : FnScope n_least_subfield ["field", "members"] (defScope s_least_subfield) := ⟨rfl, rfl, rfl, by decide +kernel, rfl, by decide +kernel, by decide +kernel⟩
def f_least_subfield_b : Rho → R Out := (mSeq (mFor (mIter (mCall 1 f_all_subfields (mCons (mVar 0) mNil))) (bName 2) (mSeq (mIf (mTt (mBi (dAllB fun bs => bs.all id) (mCons (mFrz (mComp [3] (mIter (mVar 1)) (bName 3) mYes (mBin (dInG false) (mVarB 3) (mVarB 2)))) mNil))) (mRet (mVar 2)) mSkip) (mNo 2 mSkip))) (mRet (mTupR (mUn (dFld 0 3) (mVarB 0)))))
def f_least_subfield : List D → R D := mFun 4 2 f_least_subfield_b
set_option maxRecDepth 100000 in
set_option maxHeartbeats 8000000 in
theorem b_least_subfield {P : Program} {w : World} {K : PySem.W.Frag} {mg : Str → Option Value} {base : Heap} (T : Bi P K mg) (G_all_subfields : Cal P w K mg base 2 "all_subfields" 1 f_all_subfields) : BodyOk P w K mg base n_least_subfield "least_subfield" s_least_subfield 2 f_least_subfield_b := fun f cdv A outer s H E B hr tk pf => by
  have nd := sc_least_subfield.nd
  exact (css_cons (cs_for (ws := [2]) pf rfl (ci_seq (ce_call G_all_subfields hr (by decide) tk (ca_cons (ce_v 0) ca_nil))) (cg_name 2 nd) (css_cons (cs_if (ct_tru (cb (ce_all (cab_cons (cb (ce_frz (co_lc rfl nd ([("one", 3)] : List (Str × Nat)) (ci_seq (ce_v 1)) (blkOk_by (N := n_least_subfield) (sc := defScope s_least_subfield) (by decide +kernel)) (fun _ _ _ _ _ => (cg_name 3 nd)) (fun _ _ _ _ _ => ct_yes) (fun _ _ _ _ _ => (ce_in (cb_v 3) (cb_v 2)))))) cab_nil) rfl T.b_all))) (css_one (cs_ret (ce_v 2))) css_nil) (css_no 2 css_nil))) (css_one (cs_ret (ce_tupR (ce_fld 0 3 T.c_Field (cb_v 0)) rfl T.b_tuple T.b_range))))

/-! ## _law_plus: 0 _law_w, 1 _law_x, 2 _law_y, 3 _law_one, 4 _law_other -/
abbrev s_l_plus : Stmt := top 43
abbrev n_l_plus : List Str := ["_law_w", "_law_x", "_law_y", "_law_one", "_law_other"]
theorem sc_l_plus : FnScope n_l_plus ["_law_w", "_law_x", "_law_y"] (defScope s_l_plus) := ⟨rfl, rfl, rfl, by decide +kernel, rfl, by decide +kernel, by decide +kernel⟩
def f_l_plus_b : Rho → R Out := (mRet (mCall 2 f_l_number (mCons (mVar 0) (mCons (mFrz (mComp [3, 4] (mArgs dZip (mCons (mCall 2 f_l_digits (mCons (mVar 0) (mCons (mVar 1) mNil))) (mCons (mCall 2 f_l_digits (mCons (mVar 0) (mCons (mVar 2) mNil))) mNil))) (bTup (bCons (bName 3) (bCons (bName 4) bNil))) mYes (mBin dMod (mBi dInt (mCons (mBin dAdd (mVarB 3) (mVarB 4)) mNil)) (mBin dIx (mVarB 0) (mC (.int 0)))))) mNil))))
def f_l_plus : List D → R D := mFun 5 3 f_l_plus_b
set_option maxRecDepth 100000 in
set_option maxHeartbeats 8000000 in
theorem b_l_plus {P : Program} {w : World} {K : PySem.W.Frag} {mg : Str → Option Value} {base : Heap} (T : Bi P K mg) (G_l_digits : Cal P w K mg base 2 "_law_digits" 2 f_l_digits) (G_l_number : Cal P w K mg base 1 "_law_number" 2 f_l_number) : BodyOk P w K mg base n_l_plus "_law_plus" s_l_plus 2 f_l_plus_b := fun f cdv A outer s H E B hr tk pf => by
  have nd := sc_l_plus.nd
  exact (css_one (cs_ret (ce_call G_l_number hr (by decide) tk (ca_cons (ce_v 0) (ca_cons (ce_frz (co_lc rfl nd ([("_law_one", 3), ("_law_other", 4)] : List (Str × Nat)) (ci_zip T.b_zip (ca_cons (ce_call G_l_digits hr (by decide) tk (ca_cons (ce_v 0) (ca_cons (ce_v 1) ca_nil))) (ca_cons (ce_call G_l_digits hr (by decide) tk (ca_cons (ce_v 0) (ca_cons (ce_v 2) ca_nil))) ca_nil))) (blkOk_by (N := n_l_plus) (sc := defScope s_l_plus) (by decide +kernel)) (fun _ _ _ _ _ => (cg_tup rfl (cgs_cons (cg_name 3 nd) (cgs_cons (cg_name 4 nd) cgs_nil)) (bnS (bnS bn0)))) (fun _ _ _ _ _ => ct_yes) (fun _ _ _ _ _ => (ce_mod (cb (ce_intc (cab_cons (cb (ce_add (cb_v 3) (cb_v 4))) cab_nil) T.b_int)) (cb (ce_ix (cb_v 0) (cb ce_int))))))) ca_nil)))))

/-! ## _law_grown: 0 _law_w, 1 _law_elements, 2 _law_found, 3 _law_at, 4 _law_one, 5 _law_made -/
abbrev s_l_grown : Stmt := top 50
abbrev n_l_grown : List Str := ["_law_w", "_law_elements", "_law_found", "_law_at", "_law_one", "_law_made"]
theorem sc_l_grown : FnScope n_l_grown ["_law_w", "_law_elements"] (defScope s_l_grown) := ⟨rfl, rfl, rfl, by decide +kernel, rfl, by decide +kernel, by decide +kernel⟩
noncomputable def f_l_grown_b : Rho → R Out := (mSeq (mPar2 2 3 (mSh (mBi dSortI (mCons (mBin dAdd (mVarB 1) (mFrz (mComp [4] (mIter (mTup (mCons (mC (.int 0)) (mCons (mC (.int 1)) mNil)))) (bName 4) (mTb (mBin (dInG true) (mVarB 4) (mVarB 1))) (mVar 4)))) mNil))) (mSh (mC (.int 0)))) (mSeq (mWhile (mAndT (mTb (mBin dLt (mVarB 3) (mBi dLen (mCons (mVarB 2) mNil)))) (mTb (mBin dLt (mVarB 3) (mC (.int 50))))) (mSeq (mFor (mIter (mCut (mVarB 2) mNone (mPart (mBin dAdd (mVarB 3) (mC (.int 1)))))) (bName 4) (mSeq (mFor (mIter (mTup (mCons (mCall 3 f_l_plus (mCons (mVar 0) (mCons (mBin dIx (mVarB 2) (mVarB 3)) (mCons (mVar 4) mNil)))) (mCons (mCall 3 f_l_times (mCons (mVar 0) (mCons (mBin dIx (mVarB 2) (mVarB 3)) (mCons (mVar 4) mNil)))) mNil)))) (bName 5) (mSeq (mIf (mTb (mBin (dInG true) (mVarB 5) (mVarB 2))) (mSet 2 (mBin dAdd (mVarB 2) (mFrz (mLst (mCons (mVar 5) mNil))))) mSkip) (mNo 5 mSkip))) (mNo 5 (mNo 4 mSkip)))) (mSeq (mSet 3 (mBin dAdd (mVarB 3) (mC (.int 1)))) (mNo 5 (mNo 4 mSkip))))) (mRet (mTupC (mBi dSortI (mCons (mVarB 2) mNil))))))
noncomputable def f_l_grown : List D → R D := mFun 6 2 f_l_grown_b
set_option maxRecDepth 100000 in
set_option maxHeartbeats 8000000 in
theorem b_l_grown {P : Program} {w : World} {K : PySem.W.Frag} {mg : Str → Option Value} {base : Heap} (T : Bi P K mg) (G_l_plus : Cal P w K mg base 3 "_law_plus" 3 f_l_plus) (G_l_times : Cal P w K mg base 3 "_law_times" 3 f_l_times) : BodyOk P w K mg base n_l_grown "_law_grown" s_l_grown 3 f_l_grown_b := fun f cdv A outer s H E B hr tk pf => by
  have nd := sc_l_grown.nd
  exact (css_cons (cs_par2 2 3 rfl nd (ck_sh (ce_sortI (cab_cons (cb (ce_add (cb_v 1) (cb (ce_frz (co_lc rfl nd ([("_law_one", 4)] : List (Str × Nat)) (ci_seq (ce_tup (ca_cons ce_int (ca_cons ce_int ca_nil)))) (blkOk_by (N := n_l_grown) (sc := defScope s_l_grown) (by decide +kernel)) (fun _ _ _ _ _ => (cg_name 4 nd)) (fun _ _ _ _ _ => (pts_one (ct_notin (cb_v 4) (cb_v 1)))) (fun _ _ _ _ _ => (ce_v 4))))))) cab_nil) T.b_sorted)) (ck_sh ce_int)) (css_cons (cs_while pf (PW.pt (cw_and (ct_lt (cb_v 3) (cb (ce_len (cab_cons (cb_v 2) cab_nil) T.b_len))) (cw_and1 (ct_lt (cb_v 3) (cb ce_int))))) (css_cons (cs_for (ws := [4]) pf rfl (ci_seq (ce_cut (cb_v 2) cp_none (cp_some (cb (ce_add (cb_v 3) (cb ce_int)))))) (cg_name 4 nd) (css_cons (cs_for (ws := [5]) pf rfl (ci_seq (ce_tup (ca_cons (ce_call G_l_plus hr (by decide) tk (ca_cons (ce_v 0) (ca_cons (ce_ix (cb_v 2) (cb_v 3)) (ca_cons (ce_v 4) ca_nil)))) (ca_cons (ce_call G_l_times hr (by decide) tk (ca_cons (ce_v 0) (ca_cons (ce_ix (cb_v 2) (cb_v 3)) (ca_cons (ce_v 4) ca_nil)))) ca_nil)))) (cg_name 5 nd) (css_cons (cs_if (ct_notin (cb_v 5) (cb_v 2)) (css_one (cs_set 2 nd (ce_add (cb_v 2) (cb (ce_frz (co_lst (ca_cons (ce_v 5) ca_nil))))))) css_nil) (css_no 5 css_nil))) (css_no 5 (css_no 4 css_nil)))) (css_cons (cs_set 3 nd (ce_add (cb_v 3) (cb ce_int))) (css_no 5 (css_no 4 css_nil))))) (css_one (cs_ret (ce_tuple (cb (ce_sortI (cab_cons (cb_v 2) cab_nil) T.b_sorted)) T.b_tuple)))))

/-! ## law: 0 _law_script, 1 _law_deal_here, 2 _law_w, 3 _law_elements, 4 _law_passed, 5 _law_told, 6 _law_common, 7 _law_order_here, 8 _law_roots, 9 _law_few, 10 _law_subfields, 11 _law_sizes, 12 _law_x, 13 _law_field, 14 _law_many, 15 _law_grown_here, 16 _law_lot, 17 _law_size_here, 18 _law_turn, 19 _law_degree, 20 _law_less, 21 _law_at -/
abbrev s_law : Stmt := top 51
abbrev n_law : List Str := ["_law_script", "_law_deal_here", "_law_w", "_law_elements", "_law_passed", "_law_told", "_law_common", "_law_order_here", "_law_roots", "_law_few", "_law_subfields", "_law_sizes", "_law_x", "_law_field", "_law_many", "_law_grown_here", "_law_lot", "_law_size_here", "_law_turn", "_law_degree", "_law_less", "_law_at"]
theorem sc_law : FnScope n_law ["_law_script"] (defScope s_law) := ⟨rfl, rfl, rfl, by decide +kernel, rfl, by decide +kernel, by decide +kernel⟩
noncomputable def f_law_b : Rho → R Out := (mSeq (mSet 2 (mCall 1 f_l_world (mCons (mVar 1) mNil))) (mSeq (mAsg (bTup (bCons (bName 13) (bCons (bName 14) bNil))) (mTup (mCons (mMake 0 3 f_Field___init__ (mCons (mBin dIx (mVarB 2) (mC (.int 0))) (mCons (mBin dIx (mVarB 2) (mC (.int 1))) mNil))) (mCons (mCall 2 f_l_power (mCons (mBin dIx (mVarB 2) (mC (.int 0))) (mCons (mBin dSub (mBi dLen (mCons (mBin dIx (mVarB 2) (mC (.int 1))) mNil)) (mC (.int 1))) mNil))) mNil)))) (mSeq (mOwn 3 (mComp [18] (mArgs dRange1 (mCons (mCall 2 f_l_of (mCons (mVar 1) (mCons (mFrz (mLst (mCons (mC (.int 0)) (mCons (mC (.int 1)) (mCons (mC (.int 2)) (mCons (mC (.int 3)) (mCons (mC (.int 2)) (mCons (mC (.int 3)) (mCons (mC (.int 8)) (mCons (mC (.int 5)) mNil)))))))))) mNil))) mNil)) (bName 18) mYes (mCall 2 f_l_of (mCons (mVar 1) (mCons (mFrz (mLst (mCons (mCall 2 f_l_any (mCons (mVar 1) (mCons (mVar 14) mNil))) (mCons (mCall 2 f_l_any (mCons (mVar 1) (mCons (mVar 14) mNil))) (mCons (mC (.int 1)) (mCons (mC (.int 0)) (mCons (mBin dSub (mVarB 14) (mC (.int 1))) mNil))))))) mNil))))) (mSeq (mSet 4 (mCall 2 f_l_of (mCons (mVar 1) (mCons (mFrz (mLst (mCons (mTupC (mVarB 3)) (mCons (mFrz (mSeqL (mCons (mVarB 3) mNil))) mNil)))) mNil)))) (mSeq (mSet 5 (mCallK [1, 0] 2 0 2 f_made_products mNil (mCons (mVar 4) (mCons (mVar 13) mNil)))) (mFrzS 3 (mSeq (mIf (mTb (mBin dNe (mBi dRepr (mCons (mVarB 5) mNil)) (mBi dRepr (mCons (mCall 2 f_l_products (mCons (mVar 2) (mCons (mVar 3) mNil))) mNil)))) (mRet (mC (.bl false))) mSkip) (mSeq (mSet 6 (mC (.int 1))) (mFrzS 3 (mSeq (mFor (mIter (mFrz (mComp [12] (mIter (mVar 3)) (bName 12) (mTb (mBin dGt (mVarB 12) (mC (.int 0)))) (mCall 3 f_l_order (mCons (mVar 2) (mCons (mVar 12) (mCons (mVar 14) mNil))))))) (bName 7) (mSeq (mSet 6 (mBin dIx (mFrz (mComp [20] (mArgs dRange2 (mCons (mC (.int 1)) (mCons (mVar 14) mNil))) (bName 20) (mAndT (mTb (mBin dEq (mBin dMod (mVarB 20) (mVarB 6)) (mC (.int 0)))) (mTb (mBin dEq (mBin dMod (mVarB 20) (mVarB 7)) (mC (.int 0))))) (mVar 20))) (mC (.int 0)))) (mNo 7 mSkip))) (mSeq (mOwn 8 (mComp [12] (mArgs dRange2 (mCons (mC (.int 1)) (mCons (mVar 14) mNil))) (bName 12) (mTb (mBin dEq (mCall 3 f_l_raised (mCons (mVar 2) (mCons (mVar 12) (mCons (mVar 6) mNil)))) (mC (.int 1)))) (mVar 12))) (mSeq (mIf (mOrT (mTb (mBin dNe (mFrz (mSeqL (mCons (mVarB 5) mNil))) (mBin dAdd (mBin dMul (mFrz (mLst (mCons (mC (.int 0)) mNil))) (mBi dInt (mCons (mBin (dInG false) (mC (.int 0)) (mVarB 3)) mNil))) (mVarB 8)))) (mTb (mBin dNe (mBi dLen (mCons (mVarB 8) mNil)) (mVarB 6)))) (mRet (mC (.bl false))) mSkip) (mSeq (mSet 9 (mCut (mVarB 3) mNone (mPart (mCall 2 f_l_of (mCons (mVar 1) (mCons (mFrz (mLst (mCons (mC (.int 1)) (mCons (mC (.int 2)) (mCons (mC (.int 2)) (mCons (mC (.int 8)) mNil)))))) mNil)))))) (mSeq (mIf (mTb (mBin dNe (mBi dRepr (mCons (mCallK [1, 0] 2 0 2 f_least_subfield mNil (mCons (mVar 9) (mCons (mVar 13) mNil))) mNil)) (mBi dRepr (mCons (mCall 2 f_l_grown (mCons (mVar 2) (mCons (mFrz (mComp [21, 12] (mArgs dEnum (mCons (mVar 9) mNil)) (bTup (bCons (bName 21) (bCons (bName 12) bNil))) (mTb (mBin (dInG true) (mVarB 12) (mCut (mVarB 9) mNone (mPart (mVarB 21))))) (mVar 12))) mNil))) mNil)))) (mRet (mC (.bl false))) mSkip) (mSeq (mSet 10 (mCallK [0] 1 0 1 f_all_subfields mNil (mCons (mVar 13) mNil))) (mSeq (mOwn 11 (mComp [19] (mArgs dRange2 (mCons (mC (.int 1)) (mCons (mBi dLen (mCons (mBin dIx (mVarB 2) (mC (.int 1))) mNil)) mNil))) (bName 19) (mTb (mBin dEq (mBin dMod (mBin dSub (mBi dLen (mCons (mBin dIx (mVarB 2) (mC (.int 1))) mNil)) (mC (.int 1))) (mVarB 19)) (mC (.int 0)))) (mCall 2 f_l_power (mCons (mBin dIx (mVarB 2) (mC (.int 0))) (mCons (mVar 19) mNil))))) (mSeq (mIf (mOrT (mNotT (mTt (mUn (dIsi "tuple") (mVarB 10)))) (mTb (mBin dNe (mFrz (mComp [16] (mIter (mVar 10)) (bName 16) mYes (mBi dLen (mCons (mVarB 16) mNil)))) (mVarB 11)))) (mRet (mC (.bl false))) mSkip) (mSeq (mFor (mIter (mIfE (mTb (mBin dLt (mVarB 14) (mC (.int 10)))) (mFrz (mLstRg (mVar 14))) (mFrz (mLst (mCons (mCall 2 f_l_any (mCons (mVar 1) (mCons (mVar 14) mNil))) mNil))))) (bName 12) (mSeq (mSet 15 (mCall 2 f_l_grown (mCons (mVar 2) (mCons (mFrz (mLst (mCons (mVar 12) mNil))) mNil)))) (mSeq (mIf (mTb (mBin (dInG true) (mBi dRepr (mCons (mVarB 15) mNil)) (mFrz (mComp [16] (mIter (mVar 10)) (bName 16) mYes (mBi dRepr (mCons (mVarB 16) mNil)))))) (mRet (mC (.bl false))) mSkip) (mNo 15 mSkip)))) (mFrzS 11 (mSeq (mFor (mArgs dZipM (mCons (mVar 10) (mCons (mVar 11) mNil))) (bTup (bCons (bName 16) (bCons (bName 17) bNil))) (mSeq (mOwn 8 (mComp [12] (mArgs dRange1 (mCons (mVar 14) mNil)) (bName 12) (mOrT (mTb (mBin dEq (mVarB 17) (mVarB 14))) (mTb (mBin dEq (mCall 3 f_l_raised (mCons (mVar 2) (mCons (mVar 12) (mCons (mVar 17) mNil)))) (mVarB 12)))) (mVar 12))) (mSeq (mIf (mOrT (mTb (mBin dNe (mBi dRepr (mCons (mVarB 16) mNil)) (mBi dRepr (mCons (mTupC (mVarB 8)) mNil)))) (mAndT (mTb (mBin dLt (mVarB 17) (mC (.int 9)))) (mTb (mBin dNe (mCall 2 f_least_subfield (mCons (mVar 13) (mCons (mRevA (mVarB 8)) mNil))) (mVarB 16))))) (mRet (mC (.bl false))) mSkip) (mNo 17 (mNo 16 (mNo 8 mSkip)))))) (mRet (mAndV (mBin dEq (mFrz (mSeqL (mCons (mVarB 4) mNil))) (mVarB 3)) (mBin dEq (mCall 2 f_made_products (mCons (mVar 13) (mCons (mTupC (mVarB 3)) mNil))) (mVarB 5))))))))))))))))))))))))
set_option maxRecDepth 100000 in
set_option maxHeartbeats 8000000 in
theorem b_law {P : Program} {w : World} {K : PySem.W.Frag} {mg : Str → Option Value} {base : Heap} (T : Bi P K mg) (G_l_any : Cal P w K mg base 1 "_law_any" 2 f_l_any) (G_l_grown : Cal P w K mg base 4 "_law_grown" 2 f_l_grown) (G_l_of : Cal P w K mg base 2 "_law_of" 2 f_l_of) (G_l_order : Cal P w K mg base 4 "_law_order" 3 f_l_order) (G_l_power : Cal P w K mg base 1 "_law_power" 2 f_l_power) (G_l_products : Cal P w K mg base 4 "_law_products" 2 f_l_products) (G_l_raised : Cal P w K mg base 4 "_law_raised" 3 f_l_raised) (G_l_world : Cal P w K mg base 4 "_law_world" 1 f_l_world) (G_least_subfield : Cal P w K mg base 3 "least_subfield" 2 f_least_subfield) (G_made_products : Cal P w K mg base 2 "made_products" 2 f_made_products) (GK0_all_subfields : CalK P w K mg base 2 "all_subfields" ["field"] 0 [0] 1 f_all_subfields) (GK1_least_subfield : CalK P w K mg base 3 "least_subfield" ["members", "field"] 0 [1, 0] 2 f_least_subfield) (GK2_made_products : CalK P w K mg base 2 "made_products" ["factors", "field"] 0 [1, 0] 2 f_made_products) (I_Field : CalI P w K mg base 5 0 3 f_Field___init__) : TailOk P w K mg base n_law "law" s_law 6 f_law_b := fun f cdv A outer s H E B hr tk pf => by
  have nd := sc_law.nd
  exact (css_cons (cs_set 2 nd (ce_call G_l_world hr (by decide) tk (ca_cons (ce_v 1) ca_nil))) (css_cons (cs_asg (ws := [13, 14]) (ce_tup (ca_cons (ce_make I_Field hr (by decide) tk (ca_cons (ce_ix (cb_v 2) (cb ce_int)) (ca_cons (ce_ix (cb_v 2) (cb ce_int)) ca_nil))) (ca_cons (ce_call G_l_power hr (by decide) tk (ca_cons (ce_ix (cb_v 2) (cb ce_int)) (ca_cons (ce_sub (cb (ce_len (cab_cons (cb (ce_ix (cb_v 2) (cb ce_int))) cab_nil) T.b_len)) (cb ce_int)) ca_nil))) ca_nil))) (cg_tup rfl (cgs_cons (cg_name 13 nd) (cgs_cons (cg_name 14 nd) cgs_nil)) (bnS (bnS bn0)))) (css_cons (cs_lc 3 rfl nd ([("_law_turn", 18)] : List (Str × Nat)) (ci_range1 T.b_range (ca_cons (ce_call G_l_of hr (by decide) tk (ca_cons (ce_v 1) (ca_cons (ce_frz (co_lst (ca_cons ce_int (ca_cons ce_int (ca_cons ce_int (ca_cons ce_int (ca_cons ce_int (ca_cons ce_int (ca_cons ce_int (ca_cons ce_int ca_nil)))))))))) ca_nil))) ca_nil)) (blkOk_by (N := n_law) (sc := defScope s_law) (by decide +kernel)) (fun _ _ _ _ _ => (cg_name 18 nd)) (fun _ _ _ _ _ => ct_yes) (fun _ _ _ _ _ => (ce_call G_l_of hr (by decide) takes0 (ca_cons (ce_v 1) (ca_cons (ce_frz (co_lst (ca_cons (ce_call G_l_any hr (by decide) takes0 (ca_cons (ce_v 1) (ca_cons (ce_v 14) ca_nil))) (ca_cons (ce_call G_l_any hr (by decide) takes0 (ca_cons (ce_v 1) (ca_cons (ce_v 14) ca_nil))) (ca_cons ce_int (ca_cons ce_int (ca_cons (ce_sub (cb_v 14) (cb ce_int)) ca_nil))))))) ca_nil))))) (css_cons (cs_set 4 nd (ce_call G_l_of hr (by decide) tk (ca_cons (ce_v 1) (ca_cons (ce_frz (co_lst (ca_cons (ce_tuple (cb_v 3) T.b_tuple) (ca_cons (ce_frz (co_list (cab_cons (cb_v 3) cab_nil) T.b_list)) ca_nil)))) ca_nil)))) (css_cons (cs_set 5 nd (ce_callK0 GK2_made_products hr (by decide) tk (kw_cons (ce_v 4) (kw_cons (ce_v 13) kw_nil)))) (css_frz 3 (css_cons (cs_if (ct_ne hr.room.units (cb (ce_repr hr (cab_cons (cb_v 5) cab_nil) T.b_repr)) (cb (ce_repr hr (cab_cons (cb (ce_call G_l_products hr (by decide) tk (ca_cons (ce_v 2) (ca_cons (ce_v 3) ca_nil)))) cab_nil) T.b_repr))) (css_one (cs_ret ce_bl)) css_nil) (css_cons (cs_set 6 nd ce_int) (css_frz 3 (css_cons (cs_for (ws := [7]) pf rfl (ci_seq (ce_frz (co_lc rfl nd ([("_law_x", 12)] : List (Str × Nat)) (ci_seq (ce_v 3)) (blkOk_by (N := n_law) (sc := defScope s_law) (by decide +kernel)) (fun _ _ _ _ _ => (cg_name 12 nd)) (fun _ _ _ _ _ => (pts_one (ct_gt (cb_v 12) (cb ce_int)))) (fun _ _ _ _ _ => (ce_call G_l_order hr (by decide) takes0 (ca_cons (ce_v 2) (ca_cons (ce_v 12) (ca_cons (ce_v 14) ca_nil)))))))) (cg_name 7 nd) (css_cons (cs_set 6 nd (ce_ix (cb (ce_frz (co_lc rfl nd ([("_law_less", 20)] : List (Str × Nat)) (ci_range2 T.b_range (ca_cons ce_int (ca_cons (ce_v 14) ca_nil))) (blkOk_by (N := n_law) (sc := defScope s_law) (by decide +kernel)) (fun _ _ _ _ _ => (cg_name 20 nd)) (fun _ _ _ _ _ => (pts_one (PW.pt (cw_and (ct_eq hr.room.units (cb (ce_mod (cb_v 20) (cb_v 6))) (cb ce_int)) (cw_and1 (ct_eq hr.room.units (cb (ce_mod (cb_v 20) (cb_v 7))) (cb ce_int))))))) (fun _ _ _ _ _ => (ce_v 20))))) (cb ce_int))) (css_no 7 css_nil))) (css_cons (cs_lc 8 rfl nd ([("_law_x", 12)] : List (Str × Nat)) (ci_range2 T.b_range (ca_cons ce_int (ca_cons (ce_v 14) ca_nil))) (blkOk_by (N := n_law) (sc := defScope s_law) (by decide +kernel)) (fun _ _ _ _ _ => (cg_name 12 nd)) (fun _ _ _ _ _ => (pts_one (ct_eq hr.room.units (cb (ce_call G_l_raised hr (by decide) takes0 (ca_cons (ce_v 2) (ca_cons (ce_v 12) (ca_cons (ce_v 6) ca_nil))))) (cb ce_int)))) (fun _ _ _ _ _ => (ce_v 12))) (css_cons (cs_if (PW.pt (cw_or (ct_ne hr.room.units (cb (ce_frz (co_list (cab_cons (cb_v 5) cab_nil) T.b_list))) (cb (ce_add (cb (ce_mul (cb (ce_frz (co_lst (ca_cons ce_int ca_nil)))) (cb (ce_intc (cab_cons (cb (ce_in (cb ce_int) (cb_v 3))) cab_nil) T.b_int)))) (cb_v 8)))) (cw_or1 (ct_ne hr.room.units (cb (ce_len (cab_cons (cb_v 8) cab_nil) T.b_len)) (cb_v 6))))) (css_one (cs_ret ce_bl)) css_nil) (css_cons (cs_set 9 nd (ce_cut (cb_v 3) cp_none (cp_some (cb (ce_call G_l_of hr (by decide) tk (ca_cons (ce_v 1) (ca_cons (ce_frz (co_lst (ca_cons ce_int (ca_cons ce_int (ca_cons ce_int (ca_cons ce_int ca_nil)))))) ca_nil))))))) (css_cons (cs_if (ct_ne hr.room.units (cb (ce_repr hr (cab_cons (cb (ce_callK0 GK1_least_subfield hr (by decide) tk (kw_cons (ce_v 9) (kw_cons (ce_v 13) kw_nil)))) cab_nil) T.b_repr)) (cb (ce_repr hr (cab_cons (cb (ce_call G_l_grown hr (by decide) tk (ca_cons (ce_v 2) (ca_cons (ce_frz (co_lc rfl nd ([("_law_at", 21), ("_law_x", 12)] : List (Str × Nat)) (ci_enum T.b_enumerate (ca_cons (ce_v 9) ca_nil)) (blkOk_by (N := n_law) (sc := defScope s_law) (by decide +kernel)) (fun _ _ _ _ _ => (cg_tup rfl (cgs_cons (cg_name 21 nd) (cgs_cons (cg_name 12 nd) cgs_nil)) (bnS (bnS bn0)))) (fun _ _ _ _ _ => (pts_one (ct_notin (cb_v 12) (cb (ce_cut (cb_v 9) cp_none (cp_some (cb_v 21))))))) (fun _ _ _ _ _ => (ce_v 12)))) ca_nil)))) cab_nil) T.b_repr))) (css_one (cs_ret ce_bl)) css_nil) (css_cons (cs_set 10 nd (ce_callK0 GK0_all_subfields hr (by decide) tk (kw_cons (ce_v 13) kw_nil))) (css_cons (cs_lc 11 rfl nd ([("_law_degree", 19)] : List (Str × Nat)) (ci_range2 T.b_range (ca_cons ce_int (ca_cons (ce_len (cab_cons (cb (ce_ix (cb_v 2) (cb ce_int))) cab_nil) T.b_len) ca_nil))) (blkOk_by (N := n_law) (sc := defScope s_law) (by decide +kernel)) (fun _ _ _ _ _ => (cg_name 19 nd)) (fun _ _ _ _ _ => (pts_one (ct_eq hr.room.units (cb (ce_mod (cb (ce_sub (cb (ce_len (cab_cons (cb (ce_ix (cb_v 2) (cb ce_int))) cab_nil) T.b_len)) (cb ce_int))) (cb_v 19))) (cb ce_int)))) (fun _ _ _ _ _ => (ce_call G_l_power hr (by decide) takes0 (ca_cons (ce_ix (cb_v 2) (cb ce_int)) (ca_cons (ce_v 19) ca_nil))))) (css_cons (cs_if (PW.pt (cw_or (ct_not (ct_tru (cb (ce_isi "tuple" (cb_v 10) T.b_isinstance T.b_tuple)))) (cw_or1 (ct_ne hr.room.units (cb (ce_frz (co_lc rfl nd ([("_law_lot", 16)] : List (Str × Nat)) (ci_seq (ce_v 10)) (blkOk_by (N := n_law) (sc := defScope s_law) (by decide +kernel)) (fun _ _ _ _ _ => (cg_name 16 nd)) (fun _ _ _ _ _ => ct_yes) (fun _ _ _ _ _ => (ce_len (cab_cons (cb_v 16) cab_nil) T.b_len))))) (cb_v 11))))) (css_one (cs_ret ce_bl)) css_nil) (css_cons (cs_for (ws := [12]) pf rfl (ci_seq (ce_if (ct_lt (cb_v 14) (cb ce_int)) (ce_frz (co_listR (ce_v 14) rfl T.b_list T.b_range)) (ce_frz (co_lst (ca_cons (ce_call G_l_any hr (by decide) tk (ca_cons (ce_v 1) (ca_cons (ce_v 14) ca_nil))) ca_nil))))) (cg_name 12 nd) (css_cons (cs_set 15 nd (ce_call G_l_grown hr (by decide) tk (ca_cons (ce_v 2) (ca_cons (ce_frz (co_lst (ca_cons (ce_v 12) ca_nil))) ca_nil)))) (css_cons (cs_if (ct_notin (cb (ce_repr hr (cab_cons (cb_v 15) cab_nil) T.b_repr)) (cb (ce_frz (co_lc rfl nd ([("_law_lot", 16)] : List (Str × Nat)) (ci_seq (ce_v 10)) (blkOk_by (N := n_law) (sc := defScope s_law) (by decide +kernel)) (fun _ _ _ _ _ => (cg_name 16 nd)) (fun _ _ _ _ _ => ct_yes) (fun _ _ _ _ _ => (ce_repr hr (cab_cons (cb_v 16) cab_nil) T.b_repr)))))) (css_one (cs_ret ce_bl)) css_nil) (css_no 15 css_nil)))) (css_frz 11 (css_cons (cs_for (ws := [16, 17]) pf rfl (ci_zipM T.b_zip (ca_cons (ce_v 10) (ca_cons (ce_v 11) ca_nil))) (cg_tup rfl (cgs_cons (cg_name 16 nd) (cgs_cons (cg_name 17 nd) cgs_nil)) (bnS (bnS bn0))) (css_cons (cs_lc 8 rfl nd ([("_law_x", 12)] : List (Str × Nat)) (ci_range1 T.b_range (ca_cons (ce_v 14) ca_nil)) (blkOk_by (N := n_law) (sc := defScope s_law) (by decide +kernel)) (fun _ _ _ _ _ => (cg_name 12 nd)) (fun _ _ _ _ _ => (pts_one (PW.pt (cw_or (ct_eq hr.room.units (cb_v 17) (cb_v 14)) (cw_or1 (ct_eq hr.room.units (cb (ce_call G_l_raised hr (by decide) takes0 (ca_cons (ce_v 2) (ca_cons (ce_v 12) (ca_cons (ce_v 17) ca_nil))))) (cb_v 12))))))) (fun _ _ _ _ _ => (ce_v 12))) (css_cons (cs_if (PW.pt (cw_or (ct_ne hr.room.units (cb (ce_repr hr (cab_cons (cb_v 16) cab_nil) T.b_repr)) (cb (ce_repr hr (cab_cons (cb (ce_tuple (cb_v 8) T.b_tuple)) cab_nil) T.b_repr))) (cw_or1 (PW.pt (cw_and (ct_lt (cb_v 17) (cb ce_int)) (cw_and1 (ct_ne hr.room.units (cb (ce_call G_least_subfield hr (by decide) tk (ca_cons (ce_v 13) (ca_cons (ce_rev (cb_v 8)) ca_nil)))) (cb_v 16)))))))) (css_one (cs_ret ce_bl)) css_nil) (css_no 17 (css_no 16 (css_no 8 css_nil)))))) (css_one (cs_ret (ce_and (ce_eq hr.room.units (cb (ce_frz (co_list (cab_cons (cb_v 4) cab_nil) T.b_list))) (cb_v 3)) (ce_one (ce_eq hr.room.units (cb (ce_call G_made_products hr (by decide) tk (ca_cons (ce_v 13) (ca_cons (ce_tuple (cb_v 3) T.b_tuple) ca_nil)))) (cb_v 5))))))))))))))))))))))))))
end K05
end Y
/-! # GB -/
set_option Elab.async false
set_option linter.all false
set_option maxRecDepth 100000
set_option maxHeartbeats 4000000
namespace Y
open PySem PySem.Spec L2
namespace K05
/-! ## all together -/
/-- every way out of the law is true (a structure: the elaborator must not run the text) -/
structure Md (t : R Out) : Prop where
  h : t.all (fun o => o = .ret (.bl true)) (fun _ => False)
section
variable {P : Program} {w : World} {K : PySem.W.Frag} {h base : Heap} {mg : Str → Option Value}
set_option maxRecDepth 100000 in
set_option maxHeartbeats 400000 in
theorem g_l_any (X : K.In h) (G : h.Ns mainGlobals mg) (T : Bi P K mg) (Ha : Has K "_law_any" s_l_any) : Cal P w K mg base 1 "_law_any" 2 f_l_any := by
  obtain ⟨_, _, g, F⟩ := Ha
  exact cal_any F sc_l_any rfl rfl (PySem.W.mg_of X G g) (F.binds (ps := ["_law_deal_here", "_law_bound"]) fun _ _ _ _ _ _ us hl => match us, hl with | [_, _], _ => rfl) (a_any T)
set_option maxRecDepth 100000 in
set_option maxHeartbeats 400000 in
theorem w0_l_of (X : K.In h) (G : h.Ns mainGlobals mg) (T : Bi P K mg) (Ha : Has K "_law_of" s_l_of) (G_l_any : Cal P w K mg base 1 "_law_any" 2 f_l_any) : Cal P w K mg base 2 "_law_of" 2 f_l_of := by
  obtain ⟨_, _, g, F⟩ := Ha
  exact cal_y (N := n_l_of) (ps := ["_law_deal_here", "_law_some"]) (mb := f_l_of_b) F sc_l_of (PySem.W.mg_of X G g) (F.binds (ps := ["_law_deal_here", "_law_some"]) fun _ _ _ _ _ _ us hl => match us, hl with | [_, _], _ => rfl) (b_l_of T G_l_any)
set_option maxRecDepth 100000 in
set_option maxHeartbeats 400000 in
theorem w1_l_monic (X : K.In h) (G : h.Ns mainGlobals mg) (T : Bi P K mg) (Ha : Has K "_law_monic" s_l_monic) : Cal P w K mg base 1 "_law_monic" 3 f_l_monic := by
  obtain ⟨_, _, g, F⟩ := Ha
  exact cal_y (N := n_l_monic) (ps := ["_law_p", "_law_degree", "_law_number_here"]) (mb := f_l_monic_b) F sc_l_monic (PySem.W.mg_of X G g) (F.binds (ps := ["_law_p", "_law_degree", "_law_number_here"]) fun _ _ _ _ _ _ us hl => match us, hl with | [_, _, _], _ => rfl) (b_l_monic T)
set_option maxRecDepth 100000 in
set_option maxHeartbeats 400000 in
theorem w2_l_power (X : K.In h) (G : h.Ns mainGlobals mg) (T : Bi P K mg) (Ha : Has K "_law_power" s_l_power) : Cal P w K mg base 1 "_law_power" 2 f_l_power := by
  obtain ⟨_, _, g, F⟩ := Ha
  exact cal_y (N := n_l_power) (ps := ["_law_base", "_law_times_here"]) (mb := f_l_power_b) F sc_l_power (PySem.W.mg_of X G g) (F.binds (ps := ["_law_base", "_law_times_here"]) fun _ _ _ _ _ _ us hl => match us, hl with | [_, _], _ => rfl) (b_l_power T)
set_option maxRecDepth 100000 in
set_option maxHeartbeats 400000 in
theorem w3_l_rest (X : K.In h) (G : h.Ns mainGlobals mg) (T : Bi P K mg) (Ha : Has K "_law_rest" s_l_rest) : Cal P w K mg base 1 "_law_rest" 3 f_l_rest := by
  obtain ⟨_, _, g, F⟩ := Ha
  exact cal_y (N := n_l_rest) (ps := ["_law_p", "_law_one", "_law_other"]) (mb := f_l_rest_b) F sc_l_rest (PySem.W.mg_of X G g) (F.binds (ps := ["_law_p", "_law_one", "_law_other"]) fun _ _ _ _ _ _ us hl => match us, hl with | [_, _, _], _ => rfl) (b_l_rest T)
set_option maxRecDepth 100000 in
set_option maxHeartbeats 400000 in
theorem w4_l_is_prime (X : K.In h) (G : h.Ns mainGlobals mg) (T : Bi P K mg) (Ha : Has K "_law_is_prime" s_l_is_prime) (G_l_monic : Cal P w K mg base 1 "_law_monic" 3 f_l_monic) (G_l_power : Cal P w K mg base 1 "_law_power" 2 f_l_power) (G_l_rest : Cal P w K mg base 1 "_law_rest" 3 f_l_rest) : Cal P w K mg base 2 "_law_is_prime" 2 f_l_is_prime := by
  obtain ⟨_, _, g, F⟩ := Ha
  exact cal_y (N := n_l_is_prime) (ps := ["_law_p", "_law_polynomial"]) (mb := f_l_is_prime_b) F sc_l_is_prime (PySem.W.mg_of X G g) (F.binds (ps := ["_law_p", "_law_polynomial"]) fun _ _ _ _ _ _ us hl => match us, hl with | [_, _], _ => rfl) (b_l_is_prime T G_l_monic G_l_power G_l_rest)
set_option maxRecDepth 100000 in
set_option maxHeartbeats 400000 in
theorem w5_l_modulus (X : K.In h) (G : h.Ns mainGlobals mg) (T : Bi P K mg) (Ha : Has K "_law_modulus" s_l_modulus) (G_l_any : Cal P w K mg base 1 "_law_any" 2 f_l_any) (G_l_is_prime : Cal P w K mg base 2 "_law_is_prime" 2 f_l_is_prime) (G_l_monic : Cal P w K mg base 1 "_law_monic" 3 f_l_monic) (G_l_power : Cal P w K mg base 1 "_law_power" 2 f_l_power) : Cal P w K mg base 3 "_law_modulus" 3 f_l_modulus := by
  obtain ⟨_, _, g, F⟩ := Ha
  exact cal_y (N := n_l_modulus) (ps := ["_law_deal_here", "_law_p", "_law_degree"]) (mb := f_l_modulus_b) F sc_l_modulus (PySem.W.mg_of X G g) (F.binds (ps := ["_law_deal_here", "_law_p", "_law_degree"]) fun _ _ _ _ _ _ us hl => match us, hl with | [_, _, _], _ => rfl) (b_l_modulus T G_l_any G_l_is_prime G_l_monic G_l_power)
set_option maxRecDepth 100000 in
set_option maxHeartbeats 400000 in
theorem w6_l_size (X : K.In h) (G : h.Ns mainGlobals mg) (T : Bi P K mg) (Ha : Has K "_law_size" s_l_size) (G_l_any : Cal P w K mg base 1 "_law_any" 2 f_l_any) (G_l_of : Cal P w K mg base 2 "_law_of" 2 f_l_of) : Cal P w K mg base 3 "_law_size" 1 f_l_size := by
  obtain ⟨_, _, g, F⟩ := Ha
  exact cal_y (N := n_l_size) (ps := ["_law_deal_here"]) (mb := f_l_size_b) F sc_l_size (PySem.W.mg_of X G g) (F.binds (ps := ["_law_deal_here"]) fun _ _ _ _ _ _ us hl => match us, hl with | [_], _ => rfl) (b_l_size T G_l_any G_l_of)
set_option maxRecDepth 100000 in
set_option maxHeartbeats 400000 in
theorem w7_is_integer (X : K.In h) (G : h.Ns mainGlobals mg) (T : Bi P K mg) (Ha : Has K "is_integer" s_is_integer) : Cal P w K mg base 1 "is_integer" 1 f_is_integer := by
  obtain ⟨_, _, g, F⟩ := Ha
  exact cal_y (N := n_is_integer) (ps := ["value"]) (mb := f_is_integer_b) F sc_is_integer (PySem.W.mg_of X G g) (F.binds (ps := ["value"]) fun _ _ _ _ _ _ us hl => match us, hl with | [_], _ => rfl) (b_is_integer T)
set_option maxRecDepth 100000 in
set_option maxHeartbeats 400000 in
theorem w8_is_prime (X : K.In h) (G : h.Ns mainGlobals mg) (T : Bi P K mg) (Ha : Has K "is_prime" s_is_prime) : Cal P w K mg base 1 "is_prime" 1 f_is_prime := by
  obtain ⟨_, _, g, F⟩ := Ha
  exact cal_y (N := n_is_prime) (ps := ["number"]) (mb := f_is_prime_b) F sc_is_prime (PySem.W.mg_of X G g) (F.binds (ps := ["number"]) fun _ _ _ _ _ _ us hl => match us, hl with | [_], _ => rfl) (b_is_prime T)
set_option maxRecDepth 100000 in
set_option maxHeartbeats 400000 in
theorem w9_trimmed_off (X : K.In h) (G : h.Ns mainGlobals mg) (T : Bi P K mg) (Ha : Has K "trimmed_off" s_trimmed_off) : Cal P w K mg base 1 "trimmed_off" 1 f_trimmed_off := by
  obtain ⟨_, _, g, F⟩ := Ha
  exact cal_y (N := n_trimmed_off) (ps := ["values"]) (mb := f_trimmed_off_b) F sc_trimmed_off (PySem.W.mg_of X G g) (F.binds (ps := ["values"]) fun _ _ _ _ _ _ us hl => match us, hl with | [_], _ => rfl) (b_trimmed_off T)
set_option maxRecDepth 100000 in
set_option maxHeartbeats 400000 in
theorem w10_numbered_polynomial (X : K.In h) (G : h.Ns mainGlobals mg) (T : Bi P K mg) (Ha : Has K "numbered_polynomial" s_numbered_polynomial) : Cal P w K mg base 1 "numbered_polynomial" 3 f_numbered_polynomial := by
  obtain ⟨_, _, g, F⟩ := Ha
  exact cal_y (N := n_numbered_polynomial) (ps := ["p", "degree", "number"]) (mb := f_numbered_polynomial_b) F sc_numbered_polynomial (PySem.W.mg_of X G g) (F.binds (ps := ["p", "degree", "number"]) fun _ _ _ _ _ _ us hl => match us, hl with | [_, _, _], _ => rfl) (b_numbered_polynomial T)
set_option maxRecDepth 100000 in
set_option maxHeartbeats 400000 in
theorem w11_polynomial_rest (X : K.In h) (G : h.Ns mainGlobals mg) (T : Bi P K mg) (Ha : Has K "polynomial_rest" s_polynomial_rest) (G_trimmed_off : Cal P w K mg base 1 "trimmed_off" 1 f_trimmed_off) : Cal P w K mg base 2 "polynomial_rest" 3 f_polynomial_rest := by
  obtain ⟨_, _, g, F⟩ := Ha
  exact cal_y (N := n_polynomial_rest) (ps := ["p", "one", "other"]) (mb := f_polynomial_rest_b) F sc_polynomial_rest (PySem.W.mg_of X G g) (F.binds (ps := ["p", "one", "other"]) fun _ _ _ _ _ _ us hl => match us, hl with | [_, _, _], _ => rfl) (b_polynomial_rest T G_trimmed_off)
set_option maxRecDepth 100000 in
set_option maxHeartbeats 400000 in
theorem w12_small_power (X : K.In h) (G : h.Ns mainGlobals mg) (T : Bi P K mg) (Ha : Has K "small_power" s_small_power) : Cal P w K mg base 1 "small_power" 2 f_small_power := by
  obtain ⟨_, _, g, F⟩ := Ha
  exact cal_y (N := n_small_power) (ps := ["base", "times"]) (mb := f_small_power_b) F sc_small_power (PySem.W.mg_of X G g) (F.binds (ps := ["base", "times"]) fun _ _ _ _ _ _ us hl => match us, hl with | [_, _], _ => rfl) (b_small_power T)
set_option maxRecDepth 100000 in
set_option maxHeartbeats 400000 in
theorem w13_is_below (X : K.In h) (G : h.Ns mainGlobals mg) (T : Bi P K mg) (Ha : Has K "is_below" s_is_below) (G_is_integer : Cal P w K mg base 1 "is_integer" 1 f_is_integer) : Cal P w K mg base 2 "is_below" 2 f_is_below := by
  obtain ⟨_, _, g, F⟩ := Ha
  exact cal_y (N := n_is_below) (ps := ["value", "bound"]) (mb := f_is_below_b) F sc_is_below (PySem.W.mg_of X G g) (F.binds (ps := ["value", "bound"]) fun _ _ _ _ _ _ us hl => match us, hl with | [_, _], _ => rfl) (b_is_below T G_is_integer)
set_option maxRecDepth 100000 in
set_option maxHeartbeats 400000 in
theorem w14_is_sequence (X : K.In h) (G : h.Ns mainGlobals mg) (T : Bi P K mg) (Ha : Has K "is_sequence" s_is_sequence) : Cal P w K mg base 1 "is_sequence" 1 f_is_sequence := by
  obtain ⟨_, _, g, F⟩ := Ha
  exact cal_y (N := n_is_sequence) (ps := ["value"]) (mb := f_is_sequence_b) F sc_is_sequence (PySem.W.mg_of X G g) (F.binds (ps := ["value"]) fun _ _ _ _ _ _ us hl => match us, hl with | [_], _ => rfl) (b_is_sequence T)
set_option maxRecDepth 100000 in
set_option maxHeartbeats 400000 in
theorem w15_polynomial_factors (X : K.In h) (G : h.Ns mainGlobals mg) (T : Bi P K mg) (Ha : Has K "polynomial_factors" s_polynomial_factors) (G_numbered_polynomial : Cal P w K mg base 1 "numbered_polynomial" 3 f_numbered_polynomial) (G_polynomial_rest : Cal P w K mg base 2 "polynomial_rest" 3 f_polynomial_rest) (G_small_power : Cal P w K mg base 1 "small_power" 2 f_small_power) : Cal P w K mg base 3 "polynomial_factors" 2 f_polynomial_factors := by
  obtain ⟨_, _, g, F⟩ := Ha
  exact cal_y (N := n_polynomial_factors) (ps := ["p", "polynomial"]) (mb := f_polynomial_factors_b) F sc_polynomial_factors (PySem.W.mg_of X G g) (F.binds (ps := ["p", "polynomial"]) fun _ _ _ _ _ _ us hl => match us, hl with | [_, _], _ => rfl) (b_polynomial_factors T G_numbered_polynomial G_polynomial_rest G_small_power)
set_option maxRecDepth 100000 in
set_option maxHeartbeats 400000 in
theorem w16_digits_of (X : K.In h) (G : h.Ns mainGlobals mg) (T : Bi P K mg) (Ha : Has K "digits_of" s_digits_of) (G_numbered_polynomial : Cal P w K mg base 1 "numbered_polynomial" 3 f_numbered_polynomial) : Cal P w K mg base 2 "digits_of" 3 f_digits_of := by
  obtain ⟨_, _, g, F⟩ := Ha
  exact cal_y (N := n_digits_of) (ps := ["number", "p", "many"]) (mb := f_digits_of_b) F sc_digits_of (PySem.W.mg_of X G g) (F.binds (ps := ["number", "p", "many"]) fun _ _ _ _ _ _ us hl => match us, hl with | [_, _, _], _ => rfl) (b_digits_of T G_numbered_polynomial)
set_option maxRecDepth 100000 in
set_option maxHeartbeats 400000 in
theorem w17_from_digits (X : K.In h) (G : h.Ns mainGlobals mg) (T : Bi P K mg) (Ha : Has K "from_digits" s_from_digits) : Cal P w K mg base 1 "from_digits" 2 f_from_digits := by
  obtain ⟨_, _, g, F⟩ := Ha
  exact cal_y (N := n_from_digits) (ps := ["digits", "p"]) (mb := f_from_digits_b) F sc_from_digits (PySem.W.mg_of X G g) (F.binds (ps := ["digits", "p"]) fun _ _ _ _ _ _ us hl => match us, hl with | [_, _], _ => rfl) (b_from_digits T)
set_option maxRecDepth 100000 in
set_option maxHeartbeats 400000 in
theorem w18_polynomial_product (X : K.In h) (G : h.Ns mainGlobals mg) (T : Bi P K mg) (Ha : Has K "polynomial_product" s_polynomial_product) (G_trimmed_off : Cal P w K mg base 1 "trimmed_off" 1 f_trimmed_off) : Cal P w K mg base 2 "polynomial_product" 3 f_polynomial_product := by
  obtain ⟨_, _, g, F⟩ := Ha
  exact cal_y (N := n_polynomial_product) (ps := ["p", "one", "other"]) (mb := f_polynomial_product_b) F sc_polynomial_product (PySem.W.mg_of X G g) (F.binds (ps := ["p", "one", "other"]) fun _ _ _ _ _ _ us hl => match us, hl with | [_, _, _], _ => rfl) (b_polynomial_product T G_trimmed_off)
set_option maxRecDepth 100000 in
set_option maxHeartbeats 400000 in
theorem w19_Field__multiplied (X : K.In h) (G : h.Ns mainGlobals mg) (T : Bi P K mg) {C : Addr} (aC : PySem.W.nsIn K mainGlobals "Field" = some (some (.ref C))) (Ha : HasM K C "_multiplied" "Field._multiplied" s_Field__multiplied) (G_digits_of : Cal P w K mg base 2 "digits_of" 3 f_digits_of) (G_from_digits : Cal P w K mg base 1 "from_digits" 2 f_from_digits) (G_polynomial_product : Cal P w K mg base 2 "polynomial_product" 3 f_polynomial_product) (G_polynomial_rest : Cal P w K mg base 2 "polynomial_rest" 3 f_polynomial_rest) : CalM P w K mg base 3 0 "_multiplied" 3 f_Field__multiplied := by
  obtain ⟨g, fd, a, i, F⟩ := Ha
  exact ⟨C, g, fd, ["self", "x", "y"], PySem.W.mg_of X G aC, T.c_Field.cl (PySem.W.mg_of X G aC), ⟨a, i, F.kp⟩, by decide +kernel, fn_y (N := n_Field__multiplied) (ps := ["self", "x", "y"]) (mb := f_Field__multiplied_b) F sc_Field__multiplied (b_Field__multiplied T G_digits_of G_from_digits G_polynomial_product G_polynomial_rest), (F.binds (ps := ["self", "x", "y"]) fun _ _ _ _ _ _ us hl => match us, hl with | [_, _, _], _ => rfl)⟩
set_option maxRecDepth 100000 in
set_option maxHeartbeats 400000 in
theorem w20_is_small_prime (X : K.In h) (G : h.Ns mainGlobals mg) (T : Bi P K mg) (Ha : Has K "is_small_prime" s_is_small_prime) (G_is_integer : Cal P w K mg base 1 "is_integer" 1 f_is_integer) (G_is_prime : Cal P w K mg base 1 "is_prime" 1 f_is_prime) : Cal P w K mg base 2 "is_small_prime" 1 f_is_small_prime := by
  obtain ⟨_, _, g, F⟩ := Ha
  exact cal_y (N := n_is_small_prime) (ps := ["value"]) (mb := f_is_small_prime_b) F sc_is_small_prime (PySem.W.mg_of X G g) (F.binds (ps := ["value"]) fun _ _ _ _ _ _ us hl => match us, hl with | [_], _ => rfl) (b_is_small_prime T G_is_integer G_is_prime)
set_option maxRecDepth 100000 in
set_option maxHeartbeats 400000 in
theorem w21_wrong_modulus (X : K.In h) (G : h.Ns mainGlobals mg) (T : Bi P K mg) (Ha : Has K "wrong_modulus" s_wrong_modulus) (G_is_below : Cal P w K mg base 2 "is_below" 2 f_is_below) (G_is_sequence : Cal P w K mg base 1 "is_sequence" 1 f_is_sequence) (G_polynomial_factors : Cal P w K mg base 3 "polynomial_factors" 2 f_polynomial_factors) : Cal P w K mg base 4 "wrong_modulus" 2 f_wrong_modulus := by
  obtain ⟨_, _, g, F⟩ := Ha
  exact cal_y (N := n_wrong_modulus) (ps := ["p", "modulus"]) (mb := f_wrong_modulus_b) F sc_wrong_modulus (PySem.W.mg_of X G g) (F.binds (ps := ["p", "modulus"]) fun _ _ _ _ _ _ us hl => match us, hl with | [_, _], _ => rfl) (b_wrong_modulus T G_is_below G_is_sequence G_polynomial_factors)
set_option maxRecDepth 100000 in
set_option maxHeartbeats 400000 in
theorem w22_Field__powers_from (X : K.In h) (G : h.Ns mainGlobals mg) (T : Bi P K mg) {C : Addr} (aC : PySem.W.nsIn K mainGlobals "Field" = some (some (.ref C))) (Ha : HasM K C "_powers_from" "Field._powers_from" s_Field__powers_from) (M_Field__multiplied : CalM P w K mg base 3 0 "_multiplied" 3 f_Field__multiplied) : CalM P w K mg base 4 0 "_powers_from" 2 f_Field__powers_from := by
  obtain ⟨g, fd, a, i, F⟩ := Ha
  exact ⟨C, g, fd, ["self", "x"], PySem.W.mg_of X G aC, T.c_Field.cl (PySem.W.mg_of X G aC), ⟨a, i, F.kp⟩, by decide +kernel, fn_y (N := n_Field__powers_from) (ps := ["self", "x"]) (mb := f_Field__powers_from_b) F sc_Field__powers_from (b_Field__powers_from T M_Field__multiplied), (F.binds (ps := ["self", "x"]) fun _ _ _ _ _ _ us hl => match us, hl with | [_, _], _ => rfl)⟩
set_option maxRecDepth 100000 in
set_option maxHeartbeats 400000 in
theorem w23_Field_times (X : K.In h) (G : h.Ns mainGlobals mg) (T : Bi P K mg) {C : Addr} (aC : PySem.W.nsIn K mainGlobals "Field" = some (some (.ref C))) (Ha : HasM K C "times" "Field.times" s_Field_times) : CalM P w K mg base 1 0 "times" 3 f_Field_times := by
  obtain ⟨g, fd, a, i, F⟩ := Ha
  exact ⟨C, g, fd, ["self", "x", "y"], PySem.W.mg_of X G aC, T.c_Field.cl (PySem.W.mg_of X G aC), ⟨a, i, F.kp⟩, by decide +kernel, fn_y (N := n_Field_times) (ps := ["self", "x", "y"]) (mb := f_Field_times_b) F sc_Field_times (b_Field_times T), (F.binds (ps := ["self", "x", "y"]) fun _ _ _ _ _ _ us hl => match us, hl with | [_, _, _], _ => rfl)⟩
set_option maxRecDepth 100000 in
set_option maxHeartbeats 400000 in
theorem w24_l_digits (X : K.In h) (G : h.Ns mainGlobals mg) (T : Bi P K mg) (Ha : Has K "_law_digits" s_l_digits) (G_l_monic : Cal P w K mg base 1 "_law_monic" 3 f_l_monic) : Cal P w K mg base 2 "_law_digits" 2 f_l_digits := by
  obtain ⟨_, _, g, F⟩ := Ha
  exact cal_y (N := n_l_digits) (ps := ["_law_w", "_law_x"]) (mb := f_l_digits_b) F sc_l_digits (PySem.W.mg_of X G g) (F.binds (ps := ["_law_w", "_law_x"]) fun _ _ _ _ _ _ us hl => match us, hl with | [_, _], _ => rfl) (b_l_digits T G_l_monic)
set_option maxRecDepth 100000 in
set_option maxHeartbeats 400000 in
theorem w25_l_number (X : K.In h) (G : h.Ns mainGlobals mg) (T : Bi P K mg) (Ha : Has K "_law_number" s_l_number) : Cal P w K mg base 1 "_law_number" 2 f_l_number := by
  obtain ⟨_, _, g, F⟩ := Ha
  exact cal_y (N := n_l_number) (ps := ["_law_w", "_law_digits_here"]) (mb := f_l_number_b) F sc_l_number (PySem.W.mg_of X G g) (F.binds (ps := ["_law_w", "_law_digits_here"]) fun _ _ _ _ _ _ us hl => match us, hl with | [_, _], _ => rfl) (b_l_number T)
set_option maxRecDepth 100000 in
set_option maxHeartbeats 400000 in
theorem w26_l_times (X : K.In h) (G : h.Ns mainGlobals mg) (T : Bi P K mg) (Ha : Has K "_law_times" s_l_times) (G_l_digits : Cal P w K mg base 2 "_law_digits" 2 f_l_digits) (G_l_number : Cal P w K mg base 1 "_law_number" 2 f_l_number) (G_l_rest : Cal P w K mg base 1 "_law_rest" 3 f_l_rest) : Cal P w K mg base 3 "_law_times" 3 f_l_times := by
  obtain ⟨_, _, g, F⟩ := Ha
  exact cal_y (N := n_l_times) (ps := ["_law_w", "_law_x", "_law_y"]) (mb := f_l_times_b) F sc_l_times (PySem.W.mg_of X G g) (F.binds (ps := ["_law_w", "_law_x", "_law_y"]) fun _ _ _ _ _ _ us hl => match us, hl with | [_, _, _], _ => rfl) (b_l_times T G_l_digits G_l_number G_l_rest)
set_option maxRecDepth 100000 in
set_option maxHeartbeats 400000 in
theorem w27_divisors_of (X : K.In h) (G : h.Ns mainGlobals mg) (T : Bi P K mg) (Ha : Has K "divisors_of" s_divisors_of) : Cal P w K mg base 1 "divisors_of" 1 f_divisors_of := by
  obtain ⟨_, _, g, F⟩ := Ha
  exact cal_y (N := n_divisors_of) (ps := ["number"]) (mb := f_divisors_of_b) F sc_divisors_of (PySem.W.mg_of X G g) (F.binds (ps := ["number"]) fun _ _ _ _ _ _ us hl => match us, hl with | [_], _ => rfl) (b_divisors_of T)
set_option maxRecDepth 100000 in
set_option maxHeartbeats 400000 in
theorem w28_Field_power (X : K.In h) (G : h.Ns mainGlobals mg) (T : Bi P K mg) {C : Addr} (aC : PySem.W.nsIn K mainGlobals "Field" = some (some (.ref C))) (Ha : HasM K C "power" "Field.power" s_Field_power) : CalM P w K mg base 1 0 "power" 3 f_Field_power := by
  obtain ⟨g, fd, a, i, F⟩ := Ha
  exact ⟨C, g, fd, ["self", "x", "times"], PySem.W.mg_of X G aC, T.c_Field.cl (PySem.W.mg_of X G aC), ⟨a, i, F.kp⟩, by decide +kernel, fn_y (N := n_Field_power) (ps := ["self", "x", "times"]) (mb := f_Field_power_b) F sc_Field_power (b_Field_power T), (F.binds (ps := ["self", "x", "times"]) fun _ _ _ _ _ _ us hl => match us, hl with | [_, _, _], _ => rfl)⟩
set_option maxRecDepth 100000 in
set_option maxHeartbeats 400000 in
theorem w29_all_subfields (X : K.In h) (G : h.Ns mainGlobals mg) (T : Bi P K mg) (Ha : Has K "all_subfields" s_all_subfields) (G_divisors_of : Cal P w K mg base 1 "divisors_of" 1 f_divisors_of) (G_small_power : Cal P w K mg base 1 "small_power" 2 f_small_power) (M_Field_power : CalM P w K mg base 1 0 "power" 3 f_Field_power) : Cal P w K mg base 2 "all_subfields" 1 f_all_subfields := by
  obtain ⟨_, _, g, F⟩ := Ha
  exact cal_y (N := n_all_subfields) (ps := ["field"]) (mb := f_all_subfields_b) F sc_all_subfields (PySem.W.mg_of X G g) (F.binds (ps := ["field"]) fun _ _ _ _ _ _ us hl => match us, hl with | [_], _ => rfl) (b_all_subfields T G_divisors_of G_small_power M_Field_power)
set_option maxRecDepth 100000 in
set_option maxHeartbeats 400000 in
theorem w30_l_plus (X : K.In h) (G : h.Ns mainGlobals mg) (T : Bi P K mg) (Ha : Has K "_law_plus" s_l_plus) (G_l_digits : Cal P w K mg base 2 "_law_digits" 2 f_l_digits) (G_l_number : Cal P w K mg base 1 "_law_number" 2 f_l_number) : Cal P w K mg base 3 "_law_plus" 3 f_l_plus := by
  obtain ⟨_, _, g, F⟩ := Ha
  exact cal_y (N := n_l_plus) (ps := ["_law_w", "_law_x", "_law_y"]) (mb := f_l_plus_b) F sc_l_plus (PySem.W.mg_of X G g) (F.binds (ps := ["_law_w", "_law_x", "_law_y"]) fun _ _ _ _ _ _ us hl => match us, hl with | [_, _, _], _ => rfl) (b_l_plus T G_l_digits G_l_number)
set_option maxRecDepth 100000 in
set_option maxHeartbeats 400000 in
theorem w31_l_grown (X : K.In h) (G : h.Ns mainGlobals mg) (T : Bi P K mg) (Ha : Has K "_law_grown" s_l_grown) (G_l_plus : Cal P w K mg base 3 "_law_plus" 3 f_l_plus) (G_l_times : Cal P w K mg base 3 "_law_times" 3 f_l_times) : Cal P w K mg base 4 "_law_grown" 2 f_l_grown := by
  obtain ⟨_, _, g, F⟩ := Ha
  exact cal_y (N := n_l_grown) (ps := ["_law_w", "_law_elements"]) (mb := f_l_grown_b) F sc_l_grown (PySem.W.mg_of X G g) (F.binds (ps := ["_law_w", "_law_elements"]) fun _ _ _ _ _ _ us hl => match us, hl with | [_, _], _ => rfl) (b_l_grown T G_l_plus G_l_times)
set_option maxRecDepth 100000 in
set_option maxHeartbeats 400000 in
theorem w32_l_order (X : K.In h) (G : h.Ns mainGlobals mg) (T : Bi P K mg) (Ha : Has K "_law_order" s_l_order) (G_l_times : Cal P w K mg base 3 "_law_times" 3 f_l_times) : Cal P w K mg base 4 "_law_order" 3 f_l_order := by
  obtain ⟨_, _, g, F⟩ := Ha
  exact cal_y (N := n_l_order) (ps := ["_law_w", "_law_x", "_law_many"]) (mb := f_l_order_b) F sc_l_order (PySem.W.mg_of X G g) (F.binds (ps := ["_law_w", "_law_x", "_law_many"]) fun _ _ _ _ _ _ us hl => match us, hl with | [_, _, _], _ => rfl) (b_l_order T G_l_times)
set_option maxRecDepth 100000 in
set_option maxHeartbeats 400000 in
theorem w33_l_products (X : K.In h) (G : h.Ns mainGlobals mg) (T : Bi P K mg) (Ha : Has K "_law_products" s_l_products) (G_l_times : Cal P w K mg base 3 "_law_times" 3 f_l_times) : Cal P w K mg base 4 "_law_products" 2 f_l_products := by
  obtain ⟨_, _, g, F⟩ := Ha
  exact cal_y (N := n_l_products) (ps := ["_law_w", "_law_elements"]) (mb := f_l_products_b) F sc_l_products (PySem.W.mg_of X G g) (F.binds (ps := ["_law_w", "_law_elements"]) fun _ _ _ _ _ _ us hl => match us, hl with | [_, _], _ => rfl) (b_l_products T G_l_times)
set_option maxRecDepth 100000 in
set_option maxHeartbeats 400000 in
theorem w34_l_raised (X : K.In h) (G : h.Ns mainGlobals mg) (T : Bi P K mg) (Ha : Has K "_law_raised" s_l_raised) (G_l_times : Cal P w K mg base 3 "_law_times" 3 f_l_times) : Cal P w K mg base 4 "_law_raised" 3 f_l_raised := by
  obtain ⟨_, _, g, F⟩ := Ha
  exact cal_y (N := n_l_raised) (ps := ["_law_w", "_law_x", "_law_times_here"]) (mb := f_l_raised_b) F sc_l_raised (PySem.W.mg_of X G g) (F.binds (ps := ["_law_w", "_law_x", "_law_times_here"]) fun _ _ _ _ _ _ us hl => match us, hl with | [_, _, _], _ => rfl) (b_l_raised T G_l_times)
set_option maxRecDepth 100000 in
set_option maxHeartbeats 400000 in
theorem w35_l_world (X : K.In h) (G : h.Ns mainGlobals mg) (T : Bi P K mg) (Ha : Has K "_law_world" s_l_world) (G_l_modulus : Cal P w K mg base 3 "_law_modulus" 3 f_l_modulus) (G_l_size : Cal P w K mg base 3 "_law_size" 1 f_l_size) : Cal P w K mg base 4 "_law_world" 1 f_l_world := by
  obtain ⟨_, _, g, F⟩ := Ha
  exact cal_y (N := n_l_world) (ps := ["_law_deal_here"]) (mb := f_l_world_b) F sc_l_world (PySem.W.mg_of X G g) (F.binds (ps := ["_law_deal_here"]) fun _ _ _ _ _ _ us hl => match us, hl with | [_], _ => rfl) (b_l_world T G_l_modulus G_l_size)
set_option maxRecDepth 100000 in
set_option maxHeartbeats 400000 in
theorem w36_least_subfield (X : K.In h) (G : h.Ns mainGlobals mg) (T : Bi P K mg) (Ha : Has K "least_subfield" s_least_subfield) (G_all_subfields : Cal P w K mg base 2 "all_subfields" 1 f_all_subfields) : Cal P w K mg base 3 "least_subfield" 2 f_least_subfield := by
  obtain ⟨_, _, g, F⟩ := Ha
  exact cal_y (N := n_least_subfield) (ps := ["field", "members"]) (mb := f_least_subfield_b) F sc_least_subfield (PySem.W.mg_of X G g) (F.binds (ps := ["field", "members"]) fun _ _ _ _ _ _ us hl => match us, hl with | [_, _], _ => rfl) (b_least_subfield T G_all_subfields)
set_option maxRecDepth 100000 in
set_option maxHeartbeats 400000 in
theorem w37_made_products (X : K.In h) (G : h.Ns mainGlobals mg) (T : Bi P K mg) (Ha : Has K "made_products" s_made_products) (M_Field_times : CalM P w K mg base 1 0 "times" 3 f_Field_times) : Cal P w K mg base 2 "made_products" 2 f_made_products := by
  obtain ⟨_, _, g, F⟩ := Ha
  exact cal_y (N := n_made_products) (ps := ["field", "factors"]) (mb := f_made_products_b) F sc_made_products (PySem.W.mg_of X G g) (F.binds (ps := ["field", "factors"]) fun _ _ _ _ _ _ us hl => match us, hl with | [_, _], _ => rfl) (b_made_products T M_Field_times)
set_option maxRecDepth 100000 in
set_option maxHeartbeats 400000 in
theorem w38_all_subfields (X : K.In h) (G : h.Ns mainGlobals mg) (T : Bi P K mg) (Ha : Has K "all_subfields" s_all_subfields) (G_divisors_of : Cal P w K mg base 1 "divisors_of" 1 f_divisors_of) (G_small_power : Cal P w K mg base 1 "small_power" 2 f_small_power) (M_Field_power : CalM P w K mg base 1 0 "power" 3 f_Field_power) : CalK P w K mg base 2 "all_subfields" ["field"] 0 [0] 1 f_all_subfields := by
  obtain ⟨f, fd, g, F⟩ := Ha
  exact ⟨f, fd, ["field"], rfl, fn_y (N := n_all_subfields) (ps := ["field"]) (mb := f_all_subfields_b) F sc_all_subfields (b_all_subfields T G_divisors_of G_small_power M_Field_power), PySem.W.mg_of X G g, F.kp, kwTo_mk F fun _ _ _ _ _ _ us ws h1 h2 => match us, ws, h1, h2 with | [], [_], _, _ => rfl⟩
set_option maxRecDepth 100000 in
set_option maxHeartbeats 400000 in
theorem w39_least_subfield (X : K.In h) (G : h.Ns mainGlobals mg) (T : Bi P K mg) (Ha : Has K "least_subfield" s_least_subfield) (G_all_subfields : Cal P w K mg base 2 "all_subfields" 1 f_all_subfields) : CalK P w K mg base 3 "least_subfield" ["members", "field"] 0 [1, 0] 2 f_least_subfield := by
  obtain ⟨f, fd, g, F⟩ := Ha
  exact ⟨f, fd, ["field", "members"], rfl, fn_y (N := n_least_subfield) (ps := ["field", "members"]) (mb := f_least_subfield_b) F sc_least_subfield (b_least_subfield T G_all_subfields), PySem.W.mg_of X G g, F.kp, kwTo_mk F fun _ _ _ _ _ _ us ws h1 h2 => match us, ws, h1, h2 with | [], [_, _], _, _ => rfl⟩
set_option maxRecDepth 100000 in
set_option maxHeartbeats 400000 in
theorem w40_made_products (X : K.In h) (G : h.Ns mainGlobals mg) (T : Bi P K mg) (Ha : Has K "made_products" s_made_products) (M_Field_times : CalM P w K mg base 1 0 "times" 3 f_Field_times) : CalK P w K mg base 2 "made_products" ["factors", "field"] 0 [1, 0] 2 f_made_products := by
  obtain ⟨f, fd, g, F⟩ := Ha
  exact ⟨f, fd, ["field", "factors"], rfl, fn_y (N := n_made_products) (ps := ["field", "factors"]) (mb := f_made_products_b) F sc_made_products (b_made_products T M_Field_times), PySem.W.mg_of X G g, F.kp, kwTo_mk F fun _ _ _ _ _ _ us ws h1 h2 => match us, ws, h1, h2 with | [], [_, _], _, _ => rfl⟩
set_option maxRecDepth 100000 in
set_option maxHeartbeats 400000 in
theorem w41_Field___init__ (X : K.In h) (G : h.Ns mainGlobals mg) (T : Bi P K mg) {C : Addr} (aC : PySem.W.nsIn K mainGlobals "Field" = some (some (.ref C))) (Ha : HasM K C "__init__" "Field.__init__" s_Field___init__) (mk : PySem.W.makesIn K C = true) (kC : PySem.W.keepIn K (.ref C) = true) (G_is_small_prime : Cal P w K mg base 2 "is_small_prime" 1 f_is_small_prime) (G_small_power : Cal P w K mg base 1 "small_power" 2 f_small_power) (G_wrong_modulus : Cal P w K mg base 4 "wrong_modulus" 2 f_wrong_modulus) (M_Field__powers_from : CalM P w K mg base 4 0 "_powers_from" 2 f_Field__powers_from) : CalI P w K mg base 5 0 3 f_Field___init__ := by
  obtain ⟨g, fd, a, i, F⟩ := Ha
  exact ⟨C, g, fd, ["self", "p", "modulus"], PySem.W.mg_of X G aC, ⟨mk, a, i, kC⟩, fn_init (N := n_Field___init__) (ps := ["self", "p", "modulus"]) (mb := f_Field___init___b) F sc_Field___init__ (b_Field___init__ T G_is_small_prime G_small_power G_wrong_modulus M_Field__powers_from), (F.binds (ps := ["self", "p", "modulus"]) fun _ _ _ _ _ _ us hl => match us, hl with | [_, _, _], _ => rfl)⟩
set_option maxRecDepth 100000 in
set_option maxHeartbeats 400000 in
theorem gd_deal (X : K.In h) (G : h.Ns mainGlobals mg) (T : Bi P K mg) (Ha : Has K "_law_deal" s_l_deal) : ∃ f fd, FnG P w K mg base 1 f fd ["_law_script", "_law_base"] (spDeal K) ∧ mg "_law_deal" = some (.ref f) ∧ PySem.W.keepIn K (.ref f) = true ∧ Binds K fd ["_law_script", "_law_base"] [] := by
  obtain ⟨f, fd, g, F⟩ := Ha
  exact ⟨f, fd, fn_deal F sc_l_deal rfl rfl (a_deal T), PySem.W.mg_of X G g, F.kp, F.binds fun _ _ _ _ _ _ us hl => match us, hl with | [_, _], _ => rfl⟩
set_option maxRecDepth 100000 in
set_option maxHeartbeats 400000 in
theorem body_law : defBody s_law = (defBody s_law).headD (.Pass ⟨0, 0, 0, 0⟩) :: (defBody s_law).tail := rfl
set_option maxRecDepth 100000 in
set_option maxHeartbeats 400000 in
theorem first_law {fD : Addr} {fdD : FuncData} (GD : FnG P w K mg base 1 fD fdD ["_law_script", "_law_base"] (spDeal K)) (gD : mg "_law_deal" = some (.ref fD)) (kD : PySem.W.keepIn K (.ref fD) = true) (bD : Binds K fdD ["_law_script", "_law_base"] []) (f : Addr) (cdv : Value) (A : Around) (outer : List Env) (s : Shared) (H : Hp) (E : XK) (hr : RG 6 (cxF P w K mg base n_law "law" (defScope s_law) f cdv A outer s H E).A)
    (tk : Takes (cxF P w K mg base n_law "law" (defScope s_law) f cdv A outer s H E) (fun c o _ H => E c o H)) :
    PS (cxF P w K mg base n_law "law" (defScope s_law) f cdv A outer s H E) ((defBody s_law).headD (.Pass ⟨0, 0, 0, 0⟩)) (tAsg (tCallS (spDeal K) (WE fun c o _ H => E c o H) (tCons (tVar 0) (tCons (tC (.int 5)) tNil))) (gName 1)) :=
  ps_set (i := 1) sc_law.nd rfl (by first | exact Or.inl rfl | exact Or.inr rfl) (pe_callG GD (hr.mono (by decide)) rfl gD kD bD (fun σ => passAt tk σ) (pa_cons (pv 0) (pa_cons pe_int pa_nil)) rfl rfl rfl)
set_option maxRecDepth 100000 in
set_option maxHeartbeats 400000 in
theorem g_law (X : K.In h) (G : h.Ns mainGlobals mg) (T : Bi P K mg) {fD : Addr} {fdD : FuncData} (GD : FnG P w K mg base 1 fD fdD ["_law_script", "_law_base"] (spDeal K)) (gD : mg "_law_deal" = some (.ref fD)) (kD : PySem.W.keepIn K (.ref fD) = true) (bD : Binds K fdD ["_law_script", "_law_base"] []) (G_l_any : Cal P w K mg base 1 "_law_any" 2 f_l_any) (G_l_grown : Cal P w K mg base 4 "_law_grown" 2 f_l_grown) (G_l_of : Cal P w K mg base 2 "_law_of" 2 f_l_of) (G_l_order : Cal P w K mg base 4 "_law_order" 3 f_l_order) (G_l_power : Cal P w K mg base 1 "_law_power" 2 f_l_power) (G_l_products : Cal P w K mg base 4 "_law_products" 2 f_l_products) (G_l_raised : Cal P w K mg base 4 "_law_raised" 3 f_l_raised) (G_l_world : Cal P w K mg base 4 "_law_world" 1 f_l_world) (G_least_subfield : Cal P w K mg base 3 "least_subfield" 2 f_least_subfield) (G_made_products : Cal P w K mg base 2 "made_products" 2 f_made_products) (GK0_all_subfields : CalK P w K mg base 2 "all_subfields" ["field"] 0 [0] 1 f_all_subfields) (GK1_least_subfield : CalK P w K mg base 3 "least_subfield" ["members", "field"] 0 [1, 0] 2 f_least_subfield) (GK2_made_products : CalK P w K mg base 2 "made_products" ["factors", "field"] 0 [1, 0] 2 f_made_products) (I_Field : CalI P w K mg base 5 0 3 f_Field___init__) {f : Addr} {fd : FuncData} (F : Fun K "law" "law" s_law f fd)
    (math : Md (f_law_b (.no :: .sh .deal :: List.replicate (n_law.length - 2) .no))) : FnG P w K mg base 7 f fd ["_law_script"] (spLaw K) :=
  law_y (bs := 5) (N := n_law) (ps := ["_law_script"]) (mb := f_law_b) F sc_law rfl (by decide) (by decide) (by decide) body_law (first_law GD gD kD bD) (b_law T G_l_any G_l_grown G_l_of G_l_order G_l_power G_l_products G_l_raised G_l_world G_least_subfield G_made_products GK0_all_subfields GK1_least_subfield GK2_made_products I_Field) math.h
end
set_option maxRecDepth 100000 in
set_option maxHeartbeats 400000 in
theorem all_mk {l : PySem.W.OpenLaw} {w : World} {K : PySem.W.Frag} {h : Heap} {mg : Str → Option Value} {fa : Addr} {C_Field : Addr}  {tk_MOST_STATES : Tok} (X : K.In h) (G : h.Ns mainGlobals mg) (hfa : mg "law" = some (.ref fa)) (aC_Field : PySem.W.nsIn K mainGlobals "Field" = some (some (.ref C_Field))) (pg_Field : PySem.W.plainGet K C_Field Str.empty = true) (hd_Field : PySem.W.hasDictIn K C_Field = true) (po_Field : PySem.W.plainOver K C_Field = true) (sa_Field : PySem.W.findIn K (.ref C_Field) "__setattr__" = some (some (.builtin "object.__setattr__"))) (mk_Field : PySem.W.makesIn K C_Field = true) (kC_Field : PySem.W.keepIn K (.ref C_Field) = true) (na_Field0 : PySem.W.findIn K (.ref C_Field) "p" = some none) (na_Field1 : PySem.W.findIn K (.ref C_Field) "modulus" = some none) (na_Field2 : PySem.W.findIn K (.ref C_Field) "k" = some none) (na_Field3 : PySem.W.findIn K (.ref C_Field) "q" = some none) (na_Field4 : PySem.W.findIn K (.ref C_Field) "maker" = some none) (na_Field5 : PySem.W.findIn K (.ref C_Field) "_powers" = some none) (na_Field6 : PySem.W.findIn K (.ref C_Field) "_places" = some none) (H_law : Has K "law" s_law) (H_l_any : Has K "_law_any" s_l_any) (H_l_deal : Has K "_law_deal" s_l_deal) (H_l_of : Has K "_law_of" s_l_of) (H_l_size : Has K "_law_size" s_l_size) (H_l_power : Has K "_law_power" s_l_power) (H_l_monic : Has K "_law_monic" s_l_monic) (H_l_rest : Has K "_law_rest" s_l_rest) (H_l_is_prime : Has K "_law_is_prime" s_l_is_prime) (H_l_modulus : Has K "_law_modulus" s_l_modulus) (H_l_world : Has K "_law_world" s_l_world) (H_is_integer : Has K "is_integer" s_is_integer) (H_is_prime : Has K "is_prime" s_is_prime) (H_is_small_prime : Has K "is_small_prime" s_is_small_prime) (H_is_sequence : Has K "is_sequence" s_is_sequence) (H_is_below : Has K "is_below" s_is_below) (H_small_power : Has K "small_power" s_small_power) (H_numbered_polynomial : Has K "numbered_polynomial" s_numbered_polynomial) (H_trimmed_off : Has K "trimmed_off" s_trimmed_off) (H_polynomial_rest : Has K "polynomial_rest" s_polynomial_rest) (H_polynomial_factors : Has K "polynomial_factors" s_polynomial_factors) (H_wrong_modulus : Has K "wrong_modulus" s_wrong_modulus) (H_polynomial_product : Has K "polynomial_product" s_polynomial_product) (H_digits_of : Has K "digits_of" s_digits_of) (H_from_digits : Has K "from_digits" s_from_digits) (H_made_products : Has K "made_products" s_made_products) (H_l_digits : Has K "_law_digits" s_l_digits) (H_l_number : Has K "_law_number" s_l_number) (H_l_times : Has K "_law_times" s_l_times) (H_l_products : Has K "_law_products" s_l_products) (H_l_order : Has K "_law_order" s_l_order) (H_l_raised : Has K "_law_raised" s_l_raised) (H_divisors_of : Has K "divisors_of" s_divisors_of) (H_all_subfields : Has K "all_subfields" s_all_subfields) (H_least_subfield : Has K "least_subfield" s_least_subfield) (H_l_plus : Has K "_law_plus" s_l_plus) (H_l_grown : Has K "_law_grown" s_l_grown) (H_Field__multiplied : HasM K C_Field "_multiplied" "Field._multiplied" s_Field__multiplied) (H_Field__powers_from : HasM K C_Field "_powers_from" "Field._powers_from" s_Field__powers_from) (H_Field___init__ : HasM K C_Field "__init__" "Field.__init__" s_Field___init__) (H_Field_times : HasM K C_Field "times" "Field.times" s_Field_times) (H_Field_power : HasM K C_Field "power" "Field.power" s_Field_power) (z_abs : PySem.W.nsIn K mainGlobals "abs" = some none) (z_all : PySem.W.nsIn K mainGlobals "all" = some none) (z_bool : PySem.W.nsIn K mainGlobals "bool" = some none) (z_enumerate : PySem.W.nsIn K mainGlobals "enumerate" = some none) (z_int : PySem.W.nsIn K mainGlobals "int" = some none) (z_isinstance : PySem.W.nsIn K mainGlobals "isinstance" = some none) (z_len : PySem.W.nsIn K mainGlobals "len" = some none) (z_list : PySem.W.nsIn K mainGlobals "list" = some none) (z_max : PySem.W.nsIn K mainGlobals "max" = some none) (z_range : PySem.W.nsIn K mainGlobals "range" = some none) (z_repr : PySem.W.nsIn K mainGlobals "repr" = some none) (z_reversed : PySem.W.nsIn K mainGlobals "reversed" = some none) (z_sorted : PySem.W.nsIn K mainGlobals "sorted" = some none) (z_tuple : PySem.W.nsIn K mainGlobals "tuple" = some none) (z_zip : PySem.W.nsIn K mainGlobals "zip" = some none) (kk_MOST_STATES : PySem.W.nsIn K mainGlobals "MOST_STATES" = some (some (.int 49 tk_MOST_STATES))) 
    (math : Md (f_law_b (.no :: .sh .deal :: List.replicate (n_law.length - 2) .no))) :
    ∃ fd : FuncData, (∀ (s : Shared) (u : Value), BindsTo s fd ⟨[u], []⟩ [("_law_script", u)]) ∧ ∀ base : Heap, K.In base → base.Ns mainGlobals mg → FnG l.prog w K mg base 7 fa fd ["_law_script"] (spLaw K) := by
  have T : Bi l.prog K mg := ⟨PySem.W.mg_none_of X G z_abs, PySem.W.mg_none_of X G z_all, PySem.W.mg_none_of X G z_bool, PySem.W.mg_none_of X G z_enumerate, PySem.W.mg_none_of X G z_int, PySem.W.mg_none_of X G z_isinstance, PySem.W.mg_none_of X G z_len, PySem.W.mg_none_of X G z_list, PySem.W.mg_none_of X G z_max, PySem.W.mg_none_of X G z_range, PySem.W.mg_none_of X G z_repr, PySem.W.mg_none_of X G z_reversed, PySem.W.mg_none_of X G z_sorted, PySem.W.mg_none_of X G z_tuple, PySem.W.mg_none_of X G z_zip, _, ⟨PySem.W.mg_of X G kk_MOST_STATES, ⟨_, rfl⟩⟩, ⟨⟨C_Field, PySem.W.mg_of X G aC_Field, ⟨pg_Field, hd_Field, po_Field, sa_Field⟩, no_attrs ⟨na_Field0, na_Field1, na_Field2, na_Field3, na_Field4, na_Field5, na_Field6, trivial⟩⟩, by decide +kernel⟩⟩
  obtain ⟨f, fd, g, F⟩ := H_law
  cases hfa.symm.trans (PySem.W.mg_of X G g)
  refine ⟨fd, fun s u => F.bind1 (fun _ _ _ _ _ _ _ => rfl) s u, fun base _ _ => ?_⟩
  have V_l_any := g_l_any (P := l.prog) (w := w) (base := base) X G T H_l_any
  have V_w0_l_of := w0_l_of (P := l.prog) (w := w) (base := base) X G T H_l_of V_l_any
  have V_w1_l_monic := w1_l_monic (P := l.prog) (w := w) (base := base) X G T H_l_monic
  have V_w2_l_power := w2_l_power (P := l.prog) (w := w) (base := base) X G T H_l_power
  have V_w3_l_rest := w3_l_rest (P := l.prog) (w := w) (base := base) X G T H_l_rest
  have V_w4_l_is_prime := w4_l_is_prime (P := l.prog) (w := w) (base := base) X G T H_l_is_prime V_w1_l_monic V_w2_l_power V_w3_l_rest
  have V_w5_l_modulus := w5_l_modulus (P := l.prog) (w := w) (base := base) X G T H_l_modulus V_l_any V_w4_l_is_prime V_w1_l_monic V_w2_l_power
  have V_w6_l_size := w6_l_size (P := l.prog) (w := w) (base := base) X G T H_l_size V_l_any V_w0_l_of
  have V_w7_is_integer := w7_is_integer (P := l.prog) (w := w) (base := base) X G T H_is_integer
  have V_w8_is_prime := w8_is_prime (P := l.prog) (w := w) (base := base) X G T H_is_prime
  have V_w9_trimmed_off := w9_trimmed_off (P := l.prog) (w := w) (base := base) X G T H_trimmed_off
  have V_w10_numbered_polynomial := w10_numbered_polynomial (P := l.prog) (w := w) (base := base) X G T H_numbered_polynomial
  have V_w11_polynomial_rest := w11_polynomial_rest (P := l.prog) (w := w) (base := base) X G T H_polynomial_rest V_w9_trimmed_off
  have V_w12_small_power := w12_small_power (P := l.prog) (w := w) (base := base) X G T H_small_power
  have V_w13_is_below := w13_is_below (P := l.prog) (w := w) (base := base) X G T H_is_below V_w7_is_integer
  have V_w14_is_sequence := w14_is_sequence (P := l.prog) (w := w) (base := base) X G T H_is_sequence
  have V_w15_polynomial_factors := w15_polynomial_factors (P := l.prog) (w := w) (base := base) X G T H_polynomial_factors V_w10_numbered_polynomial V_w11_polynomial_rest V_w12_small_power
  have V_w16_digits_of := w16_digits_of (P := l.prog) (w := w) (base := base) X G T H_digits_of V_w10_numbered_polynomial
  have V_w17_from_digits := w17_from_digits (P := l.prog) (w := w) (base := base) X G T H_from_digits
  have V_w18_polynomial_product := w18_polynomial_product (P := l.prog) (w := w) (base := base) X G T H_polynomial_product V_w9_trimmed_off
  have V_w19_Field__multiplied := w19_Field__multiplied (P := l.prog) (w := w) (base := base) X G T aC_Field H_Field__multiplied V_w16_digits_of V_w17_from_digits V_w18_polynomial_product V_w11_polynomial_rest
  have V_w20_is_small_prime := w20_is_small_prime (P := l.prog) (w := w) (base := base) X G T H_is_small_prime V_w7_is_integer V_w8_is_prime
  have V_w21_wrong_modulus := w21_wrong_modulus (P := l.prog) (w := w) (base := base) X G T H_wrong_modulus V_w13_is_below V_w14_is_sequence V_w15_polynomial_factors
  have V_w22_Field__powers_from := w22_Field__powers_from (P := l.prog) (w := w) (base := base) X G T aC_Field H_Field__powers_from V_w19_Field__multiplied
  have V_w23_Field_times := w23_Field_times (P := l.prog) (w := w) (base := base) X G T aC_Field H_Field_times
  have V_w24_l_digits := w24_l_digits (P := l.prog) (w := w) (base := base) X G T H_l_digits V_w1_l_monic
  have V_w25_l_number := w25_l_number (P := l.prog) (w := w) (base := base) X G T H_l_number
  have V_w26_l_times := w26_l_times (P := l.prog) (w := w) (base := base) X G T H_l_times V_w24_l_digits V_w25_l_number V_w3_l_rest
  have V_w27_divisors_of := w27_divisors_of (P := l.prog) (w := w) (base := base) X G T H_divisors_of
  have V_w28_Field_power := w28_Field_power (P := l.prog) (w := w) (base := base) X G T aC_Field H_Field_power
  have V_w29_all_subfields := w29_all_subfields (P := l.prog) (w := w) (base := base) X G T H_all_subfields V_w27_divisors_of V_w12_small_power V_w28_Field_power
  have V_w30_l_plus := w30_l_plus (P := l.prog) (w := w) (base := base) X G T H_l_plus V_w24_l_digits V_w25_l_number
  have V_w31_l_grown := w31_l_grown (P := l.prog) (w := w) (base := base) X G T H_l_grown V_w30_l_plus V_w26_l_times
  have V_w32_l_order := w32_l_order (P := l.prog) (w := w) (base := base) X G T H_l_order V_w26_l_times
  have V_w33_l_products := w33_l_products (P := l.prog) (w := w) (base := base) X G T H_l_products V_w26_l_times
  have V_w34_l_raised := w34_l_raised (P := l.prog) (w := w) (base := base) X G T H_l_raised V_w26_l_times
  have V_w35_l_world := w35_l_world (P := l.prog) (w := w) (base := base) X G T H_l_world V_w5_l_modulus V_w6_l_size
  have V_w36_least_subfield := w36_least_subfield (P := l.prog) (w := w) (base := base) X G T H_least_subfield V_w29_all_subfields
  have V_w37_made_products := w37_made_products (P := l.prog) (w := w) (base := base) X G T H_made_products V_w23_Field_times
  have V_w38_all_subfields := w38_all_subfields (P := l.prog) (w := w) (base := base) X G T H_all_subfields V_w27_divisors_of V_w12_small_power V_w28_Field_power
  have V_w39_least_subfield := w39_least_subfield (P := l.prog) (w := w) (base := base) X G T H_least_subfield V_w29_all_subfields
  have V_w40_made_products := w40_made_products (P := l.prog) (w := w) (base := base) X G T H_made_products V_w23_Field_times
  have V_w41_Field___init__ := w41_Field___init__ (P := l.prog) (w := w) (base := base) X G T aC_Field H_Field___init__ mk_Field kC_Field V_w20_is_small_prime V_w12_small_power V_w21_wrong_modulus V_w22_Field__powers_from
  obtain ⟨fD, fdD, GD, gD, kD, bD⟩ := gd_deal (P := l.prog) (w := w) (base := base) X G T H_l_deal
  exact g_law X G T GD gD kD bD V_l_any V_w31_l_grown V_w0_l_of V_w32_l_order V_w2_l_power V_w33_l_products V_w34_l_raised V_w35_l_world V_w36_least_subfield V_w37_made_products V_w38_all_subfields V_w39_least_subfield V_w40_made_products V_w41_Field___init__ F math
end K05
end Y
/-! # FT1 -/
set_option linter.all false
/-! polynomials over a commutative ring without divisors of zero, roots, conjugates -/
namespace Ft
open Lean.Grind
variable {α : Type} [CommRing α]
/-- the value, the constant first -/
def pe : List α → α → α
  | [], _ => 0
  | c :: l, x => pe l x * x + c
theorem pe_app : ∀ (a b : List α) (x : α), pe (a ++ b) x = pe b x * x ^ a.length + pe a x
  | [], b, x => by simp only [List.nil_append, List.length_nil, pe]; grind
  | c :: a, b, x => by
    have := pe_app a b x
    simp only [List.cons_append, List.length_cons, pe]
    grind
theorem pe_zeros {x : α} : ∀ n, pe (List.replicate n (0 : α)) x = 0
  | 0 => rfl
  | n + 1 => by
    have := pe_zeros (x := x) n
    simp only [List.replicate_succ, pe]
    grind
theorem pe_all0 {x : α} : ∀ l : List α, (∀ c ∈ l, c = 0) → pe l x = 0
  | [], _ => rfl
  | c :: l, h => by
    have h1 := pe_all0 (x := x) l fun d hd => h d (List.mem_cons_of_mem _ hd)
    have h2 := h c List.mem_cons_self
    simp only [pe]
    grind
/-- divided by t - r -/
def syn (r : α) : List α → List α
  | [] => []
  | [_] => []
  | _ :: c :: l => pe (c :: l) r :: syn r (c :: l)
theorem syn_len (r : α) : ∀ l : List α, (syn r l).length = l.length - 1
  | [] => rfl
  | [_] => rfl
  | _ :: c :: l => by
    have := syn_len r (c :: l)
    simp only [syn, List.length_cons] at this ⊢
    omega
theorem syn_pe (r y : α) : ∀ l : List α, pe l y = (y - r) * pe (syn r l) y + pe l r
  | [] => by simp only [pe, syn]; grind
  | [c] => by simp only [pe, syn]; grind
  | c :: d :: l => by
    have := syn_pe r y (d :: l)
    rw [show syn r (c :: d :: l) = pe (d :: l) r :: syn r (d :: l) from rfl]
    rw [show pe (c :: d :: l) y = pe (d :: l) y * y + c from rfl, show pe (c :: d :: l) r = pe (d :: l) r * r + c from rfl, show pe (pe (d :: l) r :: syn r (d :: l)) y = pe (syn r (d :: l)) y * y + pe (d :: l) r from rfl]
    generalize pe (d :: l) y = A at *
    generalize pe (d :: l) r = B at *
    generalize pe (syn r (d :: l)) y = C at *
    grind
theorem syn_zero (r : α) : ∀ l : List α, (∀ c ∈ syn r l, c = 0) → pe l r = 0 → ∀ c ∈ l, c = 0
  | [], _, _, c, hc => absurd hc List.not_mem_nil
  | [d], _, h, c, hc => by
    rw [List.mem_singleton.mp hc]
    simp only [pe] at h
    grind
  | d :: e :: l, h, h2, c, hc => by
    have h3 : pe (e :: l) r = 0 := h _ List.mem_cons_self
    have ih := syn_zero r (e :: l) (fun z hz => h z (List.mem_cons_of_mem _ hz)) h3
    rcases List.mem_cons.mp hc with q | q
    · subst q
      have h4 : pe (e :: l) r * r + c = 0 := h2
      rw [h3] at h4
      grind
    · exact ih c q
/-- a row with as many roots as members is zero -/
theorem roots_all (hz : ∀ a b : α, a * b = 0 → a = 0 ∨ b = 0) : ∀ (n : Nat) (l rs : List α), l.length = n → rs.Nodup → (∀ r ∈ rs, pe l r = 0) → n ≤ rs.length → ∀ c ∈ l, c = 0
  | 0, l, rs, hl, _, _, _, c, hc => by
    rw [List.length_eq_zero_iff.mp hl] at hc
    exact absurd hc List.not_mem_nil
  | n + 1, l, [], hl, _, _, h, c, hc => by simp at h
  | n + 1, l, r :: rs, hl, nd, hr, h, c, hc => by
    have hr0 := hr r List.mem_cons_self
    have nd' := List.nodup_cons.mp nd
    refine syn_zero r l (roots_all hz n (syn r l) rs (by rw [syn_len, hl]; rfl) nd'.2 (fun y hy => ?_) (by simpa using h)) hr0 c hc
    have e := syn_pe r y l
    rw [hr y (List.mem_cons_of_mem _ hy), hr0] at e
    have e2 : (y - r) * pe (syn r l) y = 0 := by grind
    rcases hz _ _ e2 with q | q
    · have : y = r := by grind
      subst this
      exact absurd hy nd'.1
    · exact q
/-! ### times t - a -/
def trg (a : α) : α → List α → List α
  | p, [] => [0 + p]
  | p, c :: l => (c * (0 - a) + p) :: trg a c l
def tr (a : α) (l : List α) : List α := trg a 0 l
theorem trg_zip (a : α) : ∀ (l : List α) (p : α), trg a p l = List.zipWith (· + ·) (l.map (· * (0 - a)) ++ [0]) (p :: l)
  | [], p => rfl
  | c :: l, p => by
    rw [show trg a p (c :: l) = (c * (0 - a) + p) :: trg a c l from rfl, trg_zip a l c]
    rfl
theorem trg_pe (a y : α) : ∀ (l : List α) (p : α), pe (trg a p l) y = p + (y - a) * pe l y
  | [], p => by simp only [trg, pe]; grind
  | c :: l, p => by
    have := trg_pe a y l c
    simp only [trg, pe]
    rw [this]
    grind
theorem tr_pe (a y : α) (l : List α) : pe (tr a l) y = (y - a) * pe l y := by
  have := trg_pe a y l 0
  unfold tr
  grind
theorem trg_len (a : α) : ∀ (l : List α) (p : α), (trg a p l).length = l.length + 1
  | [], p => rfl
  | c :: l, p => by
    rw [show trg a p (c :: l) = (c * (0 - a) + p) :: trg a c l from rfl, List.length_cons, trg_len a l c, List.length_cons]
theorem tr_len (a : α) (l : List α) : (tr a l).length = l.length + 1 := trg_len a l 0
theorem trg_comm (a b : α) : ∀ (l : List α) (p q q' : α), q - p * a = q' - p * b → trg a q (trg b p l) = trg b q' (trg a p l)
  | [], p, q, q', h => by
    simp only [trg]
    congr 1
    grind
  | c :: l, p, q, q', h => by
    have ih := trg_comm a b l c (c * (0 - b) + p) (c * (0 - a) + p) (by grind)
    simp only [trg]
    rw [ih]
    congr 1
    grind
theorem tr_comm (a b : α) (l : List α) : tr a (tr b l) = tr b (tr a l) := trg_comm a b l 0 0 0 (by grind)
theorem trg_last (a : α) : ∀ (l : List α) (c p : α), (trg a p (c :: l)).getLast? = (c :: l).getLast?
  | [], c, p => by
    simp only [trg, List.getLast?_cons_cons, List.getLast?_singleton]
    congr 1
    grind
  | d :: l, c, p => by
    have ih := trg_last a l d c
    rw [show trg a p (c :: d :: l) = (c * (0 - a) + p) :: trg a c (d :: l) from rfl]
    rw [show trg a c (d :: l) = (d * (0 - a) + c) :: trg a d l from rfl] at ih ⊢
    rw [List.getLast?_cons_cons, ih, List.getLast?_cons_cons]
theorem tr_last (a : α) {l : List α} (h : l ≠ []) : (tr a l).getLast? = l.getLast? := by
  cases l with
  | nil => exact absurd rfl h
  | cons c l => exact trg_last a l c 0
/-! ### a map that keeps sums and products -/
structure Hm (φ : α → α) : Prop where
  add : ∀ a b, φ (a + b) = φ a + φ b
  mul : ∀ a b, φ (a * b) = φ a * φ b
  one : φ 1 = 1
theorem Hm.zero {φ : α → α} (h : Hm φ) : φ 0 = 0 := by
  have := h.add 0 0
  have e : (0 : α) + 0 = 0 := by grind
  rw [e] at this
  grind
theorem Hm.sub {φ : α → α} (h : Hm φ) (a b : α) : φ (a - b) = φ a - φ b := by
  have := h.add (a - b) b
  have e : a - b + b = a := by grind
  rw [e] at this
  grind
theorem trg_map {φ : α → α} (h : Hm φ) (a : α) : ∀ (l : List α) (p : α), (trg a p l).map φ = trg (φ a) (φ p) (l.map φ)
  | [], p => by simp only [trg, List.map_cons, List.map_nil, h.add, h.zero]
  | c :: l, p => by
    have ih := trg_map h a l c
    simp only [trg, List.map_cons, h.add, h.mul, h.sub, h.zero, ih]
theorem tr_map {φ : α → α} (h : Hm φ) (a : α) (l : List α) : (tr a l).map φ = tr (φ a) (l.map φ) := by
  unfold tr
  rw [trg_map h, h.zero]
theorem pe_map {φ : α → α} (h : Hm φ) (x : α) : ∀ l : List α, pe (l.map φ) (φ x) = φ (pe l x)
  | [] => h.zero.symm
  | c :: l => by
    have := pe_map h x l
    simp only [pe, List.map_cons, this, h.add, h.mul]
def it (φ : α → α) : Nat → α → α
  | 0, x => x
  | n + 1, x => φ (it φ n x)
theorem it_in (φ : α → α) : ∀ (n : Nat) (x : α), it φ n (φ x) = it φ (n + 1) x
  | 0, x => rfl
  | n + 1, x => congrArg φ (it_in φ n x)
theorem it_add (φ : α → α) (m : Nat) (x : α) : ∀ n, it φ n (it φ m x) = it φ (n + m) x
  | 0 => by rw [Nat.zero_add]; rfl
  | n + 1 => by rw [Nat.succ_add]; exact congrArg φ (it_add φ m x n)
/-- the product of t less each conjugate -/
def Gs (φ : α → α) : α → Nat → List α
  | _, 0 => [1]
  | x, n + 1 => tr x (Gs φ (φ x) n)
theorem Gs_out (φ : α → α) : ∀ (n : Nat) (x : α), Gs φ x (n + 1) = tr (it φ n x) (Gs φ x n)
  | 0, x => rfl
  | n + 1, x => by
    rw [show Gs φ x (n + 1 + 1) = tr x (Gs φ (φ x) (n + 1)) from rfl, Gs_out φ n (φ x), tr_comm, it_in]
    rfl
theorem Gs_map {φ : α → α} (h : Hm φ) : ∀ (n : Nat) (x : α), (Gs φ x n).map φ = Gs φ (φ x) n
  | 0, x => by simp only [Gs, List.map_cons, List.map_nil, h.one]
  | n + 1, x => by
    rw [show Gs φ x (n + 1) = tr x (Gs φ (φ x) n) from rfl, tr_map h, Gs_map h n (φ x)]
    rfl
theorem Gs_fix {φ : α → α} (h : Hm φ) {n : Nat} {x : α} (e : it φ (n + 1) x = x) : (Gs φ x (n + 1)).map φ = Gs φ x (n + 1) := by
  rw [Gs_map h, Gs_out φ n (φ x), it_in, e]
  rfl
theorem Gs_len (φ : α → α) : ∀ (n : Nat) (x : α), (Gs φ x n).length = n + 1
  | 0, x => rfl
  | n + 1, x => by
    rw [show Gs φ x (n + 1) = tr x (Gs φ (φ x) n) from rfl, tr_len, Gs_len φ n (φ x)]
theorem Gs_ne (φ : α → α) (n : Nat) (x : α) : Gs φ x n ≠ [] := fun e => by
  have := Gs_len φ n x
  rw [e] at this
  cases this
theorem Gs_last (φ : α → α) : ∀ (n : Nat) (x : α), (Gs φ x n).getLast? = some 1
  | 0, x => rfl
  | n + 1, x => by
    rw [show Gs φ x (n + 1) = tr x (Gs φ (φ x) n) from rfl, tr_last _ (Gs_ne φ n (φ x)), Gs_last φ n (φ x)]
theorem Gs_zero (φ : α → α) (n : Nat) (x : α) : pe (Gs φ x (n + 1)) x = 0 := by
  rw [show Gs φ x (n + 1) = tr x (Gs φ (φ x) n) from rfl, tr_pe]
  grind
/-- distinct conjugates -/
theorem conj_nodup {φ : α → α} (inj : ∀ a b, φ a = φ b → a = b) {n : Nat} {x : α} (least : ∀ m, 1 ≤ m → m < n → it φ m x ≠ x) : ((List.range n).map fun i => it φ i x).Nodup := by
  have back : ∀ (i : Nat) (a b : α), it φ i a = it φ i b → a = b := fun i => by
    induction i with
    | zero => exact fun a b h => h
    | succ i ih => exact fun a b h => ih a b (inj _ _ h)
  have key : ∀ i j : Nat, i < j → j < n → it φ i x ≠ it φ j x := fun i j h1 h2 e => by
    have e2 : it φ i x = it φ i (it φ (j - i) x) := by rw [it_add, e]; congr 1; omega
    exact least (j - i) (by omega) (by omega) (back i _ _ e2).symm
  rw [List.Nodup, List.pairwise_map]
  refine List.Pairwise.imp_of_mem ?_ (List.pairwise_lt_range (n := n))
  intro a b ha hb h
  exact key a b h (List.mem_range.mp hb)
/-- rows with fixed members: zero at all conjugates -/
theorem conj_zero {φ : α → α} (h : Hm φ) {l : List α} (fx : l.map φ = l) {x : α} (z : pe l x = 0) : ∀ i, pe l (it φ i x) = 0
  | 0 => z
  | i + 1 => by
    have := pe_map h (it φ i x) l
    rw [fx, conj_zero h fx z i, h.zero] at this
    exact this
/-- a fixed row that is zero at x and has at most so many members as x has conjugates is zero -/
theorem conj_all (hz : ∀ a b : α, a * b = 0 → a = 0 ∨ b = 0) {φ : α → α} (h : Hm φ) (inj : ∀ a b, φ a = φ b → a = b) {n : Nat} {x : α} (least : ∀ m, 1 ≤ m → m < n → it φ m x ≠ x) {l : List α} (fx : l.map φ = l) (z : pe l x = 0) (hl : l.length ≤ n) : ∀ c ∈ l, c = 0 := by
  refine roots_all hz l.length l ((List.range n).map fun i => it φ i x) rfl (conj_nodup inj least) (fun r hr => ?_) (by rw [List.length_map, List.length_range]; exact hl)
  obtain ⟨i, _, rfl⟩ := List.mem_map.mp hr
  exact conj_zero h fx z i
end Ft
/-! # P1 -/
set_option Elab.async false
set_option linter.all false
set_option maxRecDepth 100000
set_option maxHeartbeats 1000000
/-! polynomials with int coefficients, the constant first; told by their values -/
namespace Po
def ev : List Int → Int → Int
  | [], _ => 0
  | a :: l, x => a + x * ev l x
def co (l : List Int) (i : Nat) : Int := l.getD i 0
def add : List Int → List Int → List Int
  | [], b => b
  | a :: l, [] => a :: l
  | a :: l, b :: m => (a + b) :: add l m
def scl (c : Int) (l : List Int) : List Int := l.map (c * ·)
def mul : List Int → List Int → List Int
  | [], _ => []
  | a :: l, b => add (scl a b) (0 :: mul l b)
theorem ev_add : ∀ (a b : List Int) (x : Int), ev (add a b) x = ev a x + ev b x
  | [], b, x => by simp [add, ev]
  | a :: l, [], x => by simp [add, ev]
  | a :: l, b :: m, x => by
    simp only [add, ev, ev_add l m x]
    grind
theorem ev_scl (c : Int) : ∀ (l : List Int) (x : Int), ev (scl c l) x = c * ev l x
  | [], x => by simp [scl, ev]
  | a :: l, x => by
    have := ev_scl c l x
    unfold scl at this ⊢
    simp only [List.map_cons, ev, this]
    grind
theorem ev_mul : ∀ (a b : List Int) (x : Int), ev (mul a b) x = ev a x * ev b x
  | [], b, x => by simp [mul, ev]
  | a :: l, b, x => by
    simp only [mul, ev_add, ev_scl, ev, ev_mul l b x]
    grind
theorem ev_app : ∀ (a b : List Int) (x : Int), ev (a ++ b) x = ev a x + x ^ a.length * ev b x
  | [], b, x => by simp [ev]
  | a :: l, b, x => by
    simp only [List.cons_append, ev, ev_app l b x, List.length_cons, Int.pow_succ]
    grind
theorem ev_zeros (n : Nat) (x : Int) : ev (List.replicate n 0) x = 0 := by
  induction n with
  | zero => rfl
  | succ n ih => rw [List.replicate_succ, ev, ih, Int.mul_zero, Int.add_zero]
theorem ev_set : ∀ (l : List Int) (i : Nat) (v x : Int), i < l.length → ev (l.set i v) x = ev l x + (v - co l i) * x ^ i
  | a :: l, 0, v, x, h => by
    simp only [List.set_cons_zero, ev, co, List.getD_cons_zero, Int.pow_zero]
    grind
  | a :: l, i + 1, v, x, h => by
    have := ev_set l i v x (by simpa using h)
    have hc : co (a :: l) (i + 1) = co l i := rfl
    simp only [List.set_cons_succ, ev, this, hc, Int.pow_succ]
    grind
theorem zero_of : ∀ l : List Int, (∀ x, x ≠ 0 → ev l x = 0) → ∀ c ∈ l, c = 0
  | [], _, c, hc => absurd hc List.not_mem_nil
  | a :: l, h, c, hc => by
    have ha : a = 0 := by
      have hx : ((a.natAbs : Int) + 1) ≠ 0 := by omega
      have e := h _ hx
      unfold ev at e
      have hd : ((a.natAbs : Int) + 1) ∣ a := ⟨- ev l ((a.natAbs : Int) + 1), by grind⟩
      have hz : a.natAbs < ((a.natAbs : Int) + 1).natAbs := by omega
      exact Int.eq_zero_of_dvd_of_natAbs_lt_natAbs hd hz
    rcases List.mem_cons.mp hc with z | z
    · rw [z, ha]
    · refine zero_of l (fun x hx => ?_) c z
      have e := h x hx
      unfold ev at e
      rw [ha, Int.zero_add] at e
      rcases Int.mul_eq_zero.mp e with y | y
      · exact absurd y hx
      · exact y
theorem co_add : ∀ (a b : List Int) (i : Nat), co (add a b) i = co a i + co b i
  | [], b, i => by simp [add, co]
  | a :: l, [], i => by simp [add, co]
  | a :: l, b :: m, 0 => by simp [add, co]
  | a :: l, b :: m, i + 1 => by
    have := co_add l m i
    simpa [add, co] using this
theorem co_scl (c : Int) : ∀ (l : List Int) (i : Nat), co (scl c l) i = c * co l i
  | [], i => by simp [scl, co]
  | a :: l, 0 => by simp [scl, co]
  | a :: l, i + 1 => by
    have := co_scl c l i
    simpa [scl, co] using this
theorem co_big {l : List Int} {i : Nat} (h : l.length ≤ i) : co l i = 0 := by
  unfold co
  rw [List.getD_eq_getElem?_getD, List.getElem?_eq_none h]
  rfl
theorem co_get {l : List Int} {i : Nat} (h : i < l.length) : co l i = l[i] := by
  unfold co
  rw [List.getD_eq_getElem?_getD, List.getElem?_eq_getElem h]
  rfl
theorem co_zero {l : List Int} (h : ∀ c ∈ l, c = 0) (i : Nat) : co l i = 0 := by
  by_cases hi : i < l.length
  · rw [co_get hi]; exact h _ (List.getElem_mem hi)
  · exact co_big (by omega)
theorem len_add : ∀ (a b : List Int), (add a b).length = max a.length b.length
  | [], b => by simp [add]
  | a :: l, [] => by simp [add]
  | a :: l, b :: m => by
    simp only [add, List.length_cons, len_add l m]
    omega
theorem len_scl (c : Int) (l : List Int) : (scl c l).length = l.length := by simp [scl]
theorem len_mul {m : Nat} : ∀ (a b : List Int), b.length = m + 1 → (mul a b).length ≤ a.length + m
  | [], b, h => by simp [mul]
  | a :: l, b, h => by
    have := len_mul l b h
    simp only [mul, len_add, len_scl, List.length_cons]
    omega
/-- equal values: the coefficients differ by multiples of p -/
theorem co_of {p : Int} {f g h : List Int} (e : ∀ x, ev f x = ev g x + p * ev h x) (i : Nat) : co f i = co g i + p * co h i := by
  have z := zero_of (add f (add (scl (-1) g) (scl (-p) h))) (fun x _ => by
    rw [ev_add, ev_add, ev_scl, ev_scl, e x]
    grind)
  have y := co_zero z i
  rw [co_add, co_add, co_scl, co_scl] at y
  grind
/-- f is q times g and r, by p -/
def Dv (p : Int) (g f : List Int) : Prop := ∃ q h, ∀ x, ev f x = ev q x * ev g x + p * ev h x
theorem Dv.trans {p : Int} {a b c : List Int} (h1 : Dv p a b) (h2 : Dv p b c) : Dv p a c := by
  obtain ⟨q1, k1, e1⟩ := h1
  obtain ⟨q2, k2, e2⟩ := h2
  refine ⟨mul q2 q1, add (mul q2 k1) k2, fun x => ?_⟩
  rw [ev_mul, ev_add, ev_mul, e2 x, e1 x]
  grind
theorem Dv.refl (p : Int) (a : List Int) : Dv p a a := ⟨[1], [], fun x => by simp [ev]⟩
/-- a multiple of a monic one that is short: its coefficients are multiples of p -/
theorem short_zero {p : Int} {g : List Int} {m : Nat} (hg : g.length = m + 1) (h1 : co g m = 1) : ∀ (n : Nat) (s r h : List Int), s.length = n → r.length ≤ m → (∀ x, ev r x = ev s x * ev g x + p * ev h x) → ∀ i, ∃ k, co r i = p * k := by
  intro n
  induction n with
  | zero =>
    intro s r h hs hr e i
    have : s = [] := List.eq_nil_of_length_eq_zero hs
    subst this
    have e2 : ∀ x, ev r x = ev [] x + p * ev h x := fun x => by rw [e x]; simp [ev]
    refine ⟨co h i, ?_⟩
    rw [co_of e2 i]
    simp [co]
  | succ n ih =>
    intro s r h hs hr e
    rcases List.eq_nil_or_concat s with z | ⟨s', c, z⟩
    · rw [z] at hs; cases hs
    · rw [List.concat_eq_append] at z
      subst z
      have ln : s'.length = n := by simpa using hs
      -- the top coefficient
      have e2 : ∀ x, ev r x = ev (add (mul s' g) (List.replicate n 0 ++ scl c g)) x + p * ev h x := fun x => by
        rw [e x, ev_app, ev_add, ev_mul, ev_app, ev_zeros, ev_scl, ln, List.length_replicate]
        simp only [ev]
        grind
      have top := co_of e2 (n + m)
      rw [co_big (by omega), co_add, co_big (Nat.le_trans (len_mul s' g hg) (by omega))] at top
      have ct : co (List.replicate n 0 ++ scl c g) (n + m) = c := by
        unfold co
        rw [List.getD_eq_getElem?_getD, List.getElem?_append_right (by simp), List.length_replicate, Nat.add_sub_cancel_left]
        have := co_scl c g m
        rw [h1, Int.mul_one] at this
        unfold co at this
        rw [List.getD_eq_getElem?_getD] at this
        exact this
      rw [ct] at top
      refine ih s' r (add h (List.replicate n 0 ++ scl (- co h (n + m)) g)) ln hr fun x => ?_
      rw [e x, ev_app, ev_add, ev_app, ev_zeros, ev_scl, ln, List.length_replicate]
      simp only [ev]
      grind
/-- what is left of a division by a monic one -/
theorem rest_zero {p : Int} {g f q r h : List Int} {m : Nat} (hg : g.length = m + 1) (h1 : co g m = 1) (hr : r.length ≤ m) (e : ∀ x, ev f x = ev q x * ev g x + ev r x + p * ev h x) (d : Dv p g f) : ∀ i, ∃ k, co r i = p * k := by
  obtain ⟨q', h', e'⟩ := d
  refine short_zero hg h1 _ (add q' (scl (-1) q)) r (add h' (scl (-1) h)) rfl hr fun x => ?_
  have a := e x
  rw [e' x] at a
  rw [ev_add, ev_add, ev_scl, ev_scl]
  grind
/-- coefficients from 0 to p - 1 -/
def Rd (p : Int) (l : List Int) : Prop := ∀ c ∈ l, 0 ≤ c ∧ c < p
theorem Rd.co {p : Int} {l : List Int} (h : Rd p l) (h0 : 0 < p) (i : Nat) : 0 ≤ Po.co l i ∧ Po.co l i < p := by
  by_cases hi : i < l.length
  · rw [co_get hi]; exact h _ (List.getElem_mem hi)
  · rw [co_big (by omega)]; omega
theorem small_zero {p c k : Int} (h0 : 0 ≤ c) (h1 : c < p) (e : c = p * k) : c = 0 := by
  have hd : p ∣ c := ⟨k, e⟩
  exact Int.eq_zero_of_dvd_of_natAbs_lt_natAbs hd (by omega)
theorem Dv.rest {p : Int} {g f q r h : List Int} {m : Nat} (hp : 0 < p) (hg : g.length = m + 1) (h1 : co g m = 1) (hr : r.length ≤ m) (rr : Rd p r) (e : ∀ x, ev f x = ev q x * ev g x + ev r x + p * ev h x) (d : Dv p g f) : ∀ c ∈ r, c = 0 := by
  intro c hc
  obtain ⟨i, hi, rfl⟩ := List.mem_iff_getElem.mp hc
  obtain ⟨k, ek⟩ := rest_zero hg h1 hr e d i
  rw [co_get hi] at ek
  exact small_zero (rr _ hc).1 (rr _ hc).2 ek
theorem ev_zero {r : List Int} (h : ∀ c ∈ r, c = 0) (x : Int) : ev r x = 0 := by
  induction r with
  | nil => rfl
  | cons a l ih => rw [ev, ih fun c hc => h c (List.mem_cons_of_mem _ hc), h a List.mem_cons_self]; simp
theorem Dv.of_rest {p : Int} {g f q r h : List Int} (e : ∀ x, ev f x = ev q x * ev g x + ev r x + p * ev h x) (z : ∀ c ∈ r, c = 0) : Dv p g f := ⟨q, h, fun x => by rw [e x, ev_zero z]; grind⟩
/-- two reduced rows of one length with the same values by p -/
theorem same_of {p : Int} {f g h : List Int} (hp : 0 < p) (rf : Rd p f) (rg : Rd p g) (hl : f.length = g.length) (e : ∀ x, ev f x = ev g x + p * ev h x) : f = g := by
  apply List.ext_getElem hl
  intro i h1 h2
  have a := co_of e i
  have b := rf.co hp i
  have c := rg.co hp i
  rw [co_get h1] at a b
  rw [co_get h2] at a c
  have : f[i] - g[i] = 0 := by
    have hd : p ∣ f[i] - g[i] := ⟨co h i, by omega⟩
    exact Int.eq_zero_of_dvd_of_natAbs_lt_natAbs hd (by omega)
  omega
/-- reduced, the last one 1 -/
structure Mo (p : Int) (l : List Int) : Prop where
  rd : Rd p l
  ne : l ≠ []
  top : co l (l.length - 1) = 1
theorem Mo.len {p : Int} {l : List Int} (h : Mo p l) : l.length = (l.length - 1) + 1 := by
  have := List.length_pos_iff.mpr h.ne
  omega
/-- monic, reduced, the same values by p: the same row -/
theorem Mo.same {p : Int} {f g h : List Int} (hp : 1 < p) (mf : Mo p f) (mg : Mo p g) (e : ∀ x, ev f x = ev g x + p * ev h x) : f = g := by
  have lf := mf.len
  have lg := mg.len
  have key : ∀ {a b : List Int} {h : List Int}, Mo p a → Mo p b → (∀ x, ev a x = ev b x + p * ev h x) → ¬ b.length < a.length := fun {a b h} ma mb e hlt => by
    have t := co_of e (a.length - 1)
    have la := ma.len
    rw [ma.top, co_big (by omega), Int.zero_add] at t
    have hd : p ∣ 1 := ⟨_, t⟩
    have := Int.le_of_dvd (by decide) hd
    omega
  have h1 := key mf mg e
  have h2 := key mg mf (h := scl (-1) h) fun x => by rw [ev_scl, e x]; grind
  exact same_of (by omega) mf.rd mg.rd (by omega) e
/-- a monic row is no multiple of a longer one -/
theorem Dv.len {p : Int} {g f : List Int} (hp : 1 < p) (mg : Mo p g) (mf : Mo p f) (d : Dv p g f) : g.length ≤ f.length := by
  apply Classical.byContradiction
  intro hlt
  have lg := mg.len
  have lf := mf.len
  obtain ⟨k, ek⟩ := rest_zero (q := []) (r := f) (h := []) lg mg.top (by omega) (fun x => by simp [ev]) d (f.length - 1)
  rw [mf.top] at ek
  have hd : p ∣ 1 := ⟨k, ek⟩
  have := Int.le_of_dvd (by decide) hd
  omega
end Po
/-! # P2 -/
set_option Elab.async false
set_option linter.all false
set_option maxRecDepth 100000
set_option maxHeartbeats 1000000
namespace Y
/-! ### runs without draws, step by step -/
/-- it ends, with an outcome of this kind -/
def Go (m : Rho → R Out) (ρ : Rho) (P : Out → Prop) : Prop := ∃ o, m ρ = .ok o ∧ P o
theorem grd_ok {α : Type} {p : Prop} [Decidable p] {t : R α} (h : p) : R.grd p t = t := if_pos h
section
variable {a b body : Rho → R Out} {ρ : Rho} {P : Out → Prop} {i j : Nat}
theorem Go.seq (h : Go a ρ fun o => ∃ ρ', o = .next ρ' ∧ Go b ρ' P) : Go (mSeq a b) ρ P := by
  obtain ⟨o, e, ρ', rfl, o2, e2, h2⟩ := h
  refine ⟨o2, ?_, h2⟩
  unfold mSeq
  rw [e]
  exact e2
theorem Go.seqr (h : Go a ρ fun o => (∃ ρ', o = .next ρ' ∧ Go b ρ' P) ∨ (∃ d, o = .ret d ∧ P (.ret d))) : Go (mSeq a b) ρ P := by
  obtain ⟨o, e, h⟩ := h
  rcases h with ⟨ρ', rfl, o2, e2, h2⟩ | ⟨d, rfl, h2⟩
  · refine ⟨o2, ?_, h2⟩
    unfold mSeq
    rw [e]
    exact e2
  · refine ⟨_, ?_, h2⟩
    unfold mSeq
    rw [e]
    rfl
theorem Go.set {m : Rho → R D} {d : D} (h : m ρ = .ok d) (k : P (.next (ρ.set i (.sh d)))) : Go (mSet i m) ρ P := ⟨_, by unfold mSet; rw [h]; rfl, k⟩
theorem Go.own {m : Rho → R (List D)} {ds : List D} (h : m ρ = .ok ds) (k : P (.next (ρ.set i (.ow ds)))) : Go (mOwn i m) ρ P := ⟨_, by unfold mOwn; rw [h]; rfl, k⟩
theorem Go.ret {m : Rho → R D} {d : D} (h : m ρ = .ok d) (k : P (.ret d)) : Go (mRet m) ρ P := ⟨_, by unfold mRet; rw [h]; rfl, k⟩
theorem Go.skip (k : P (.next ρ)) : Go mSkip ρ P := ⟨_, rfl, k⟩
theorem Go.no (h : Go a (ρ.set i .no) P) : Go (mNo i a) ρ P := h
theorem Go.ifT {t : Rho → R Bool} (h : t ρ = .ok true) (k : Go a ρ P) : Go (mIf t a b) ρ P := by
  obtain ⟨o, e, k⟩ := k
  exact ⟨o, by unfold mIf; rw [h]; exact e, k⟩
theorem Go.ifF {t : Rho → R Bool} (h : t ρ = .ok false) (k : Go b ρ P) : Go (mIf t a b) ρ P := by
  obtain ⟨o, e, k⟩ := k
  exact ⟨o, by unfold mIf; rw [h]; exact e, k⟩
theorem Go.frz {ds : List D} (e : ρ[i]? = some (.ow ds)) (h : Go a (ρ.set i (.sh (.lst ds))) P) : Go (mFrzS i a) ρ P := by
  obtain ⟨o, e2, k⟩ := h
  exact ⟨o, by unfold mFrzS; rw [e]; exact e2, k⟩
theorem Go.aug {f : D → D → R D} {m : Rho → R D} {d y z : D} (e : ρ[i]? = some (.sh d)) (h : m ρ = .ok y) (h2 : f d y = .ok z) (k : P (.next (ρ.set i (.sh z)))) : Go (mAug i f m) ρ P := ⟨_, by unfold mAug withSh; rw [e]; show lift ρ (m ρ) _ = _; rw [h, lift_ok, h2]; rfl, k⟩
theorem Go.app {m : Rho → R D} {ds : List D} {d : D} (e : ρ[i]? = some (.ow ds)) (h : m ρ = .ok d) (hl : ds.length < 16777216) (k : P (.next (ρ.set i (.ow (ds ++ [d]))))) : Go (mApp i m) ρ P := ⟨_, by unfold mApp withOw; rw [e]; show lift ρ (m ρ) _ = _; rw [h, lift_ok, grd_ok hl], k⟩
theorem Go.store {mv mi : Rho → R D} {ds : List D} {v : D} {j : Int} {n : Nat} (e : ρ[i]? = some (.ow ds)) (h : mv ρ = .ok v) (h2 : mi ρ = .ok (.int j)) (h3 : L2.ixN ds.length j = some n) (k : P (.next (ρ.set i (.ow (ds.set n v))))) : Go (mStore i mv mi) ρ P :=
  ⟨_, by unfold mStore withOw; rw [e]; show lift ρ (mv ρ) _ = _; rw [h, lift_ok, h2, lift_ok]; show (match L2.ixN ds.length j with | some n => _ | none => _) = _; rw [h3], k⟩
theorem Go.popS {ds : List D} {d : D} (e : ρ[i]? = some (.ow ds)) (h : ds[ds.length - 1]? = some d) (k : P (.next (ρ.set i (.ow ds.dropLast)))) : Go (mPopS i) ρ P := ⟨_, by unfold mPopS withOw; rw [e]; show (match ds[ds.length - 1]? with | some _ => _ | none => _) = _; rw [h], k⟩
theorem Go.par2 {ma mb : Rho → R Sl} {x y : Sl} (h : ma ρ = .ok x) (h2 : mb ρ = .ok y) (k : P (.next ((ρ.set i x).set j y))) : Go (mPar2 i j ma mb) ρ P := ⟨_, by unfold mPar2; rw [h, lift_ok, h2, lift_ok], k⟩
theorem Go.par3 {l : Nat} {ma mb mc : Rho → R Sl} {x y z : Sl} (h : ma ρ = .ok x) (h2 : mb ρ = .ok y) (h3 : mc ρ = .ok z) (k : P (.next (((ρ.set i x).set j y).set l z))) : Go (mPar3 i j l ma mb mc) ρ P := ⟨_, by unfold mPar3; rw [h, lift_ok, h2, lift_ok, h3, lift_ok], k⟩
theorem Go.asg {bd : Bnd} {m : Rho → R D} {d : D} {ρ' : Rho} (h : m ρ = .ok d) (h2 : bd d ρ = some ρ') (k : P (.next ρ')) : Go (mAsg bd m) ρ P := ⟨_, by unfold mAsg; rw [h, lift_ok]; show (match bd d ρ with | some _ => _ | none => _) = _; rw [h2], k⟩
theorem fLoop_go {bb : D → Rho → R Out} (I : Nat → Rho → Prop) (J : D → Prop) : ∀ (xs : List D) (n : Nat) (ρ : Rho), (∀ i x ρ, xs[i]? = some x → I (n + i) ρ → ∃ o, bb x ρ = .ok o ∧ ((∃ ρ', o = .next ρ' ∧ I (n + i + 1) ρ') ∨ (∃ d, o = .ret d ∧ J d))) → I n ρ →
    ∃ o, fLoop bb xs ρ = .ok o ∧ ((∃ ρ', o = .next ρ' ∧ I (n + xs.length) ρ') ∨ (∃ d, o = .ret d ∧ J d))
  | [], n, ρ, _, h0 => ⟨_, rfl, .inl ⟨ρ, rfl, h0⟩⟩
  | x :: xs, n, ρ, hs, h0 => by
    obtain ⟨o, e, h⟩ := hs 0 x ρ rfl h0
    rcases h with ⟨ρ', rfl, h⟩ | ⟨d, rfl, h⟩
    · obtain ⟨o2, e2, k⟩ := fLoop_go I J xs (n + 1) ρ' (fun i y ρ2 hy h2 => by
        have := hs (i + 1) y ρ2 hy (by rw [show n + (i + 1) = n + 1 + i by omega]; exact h2)
        rw [show n + (i + 1) + 1 = n + 1 + i + 1 by omega] at this
        exact this) h
      refine ⟨o2, by rw [fLoop, e]; exact e2, ?_⟩
      rw [List.length_cons, show n + (xs.length + 1) = n + 1 + xs.length by omega]
      exact k
    · exact ⟨_, by rw [fLoop, e]; rfl, .inr ⟨d, rfl, h⟩⟩
/-- a loop that goes to its end, or gives an answer -/
theorem Go.forR {mi : Rho → R (List D)} {bd : Bnd} {xs : List D} (I : Nat → Rho → Prop) (J : D → Prop) (h : mi ρ = .ok xs) (h0 : I 0 ρ)
    (hs : ∀ i x ρ, xs[i]? = some x → I i ρ → ∃ ρ1, bd x ρ = some ρ1 ∧ Go body ρ1 fun o => (∃ ρ', o = .next ρ' ∧ I (i + 1) ρ') ∨ (∃ d, o = .ret d ∧ J d)) (hd : ∀ ρ', I xs.length ρ' → P (.next ρ')) (hr : ∀ d, J d → P (.ret d)) : Go (mFor mi bd body) ρ P := by
  obtain ⟨o, e, k⟩ := fLoop_go (bb := turnM bd body) I J xs 0 ρ (fun i x ρ2 hx h2 => by
    rw [Nat.zero_add] at h2 ⊢
    obtain ⟨ρ1, hb, o, e, k⟩ := hs i x ρ2 hx h2
    exact ⟨o, by unfold turnM; rw [hb]; exact e, k⟩) h0
  rw [Nat.zero_add] at k
  refine ⟨o, by unfold mFor; rw [h]; exact e, ?_⟩
  rcases k with ⟨ρ', rfl, k⟩ | ⟨d, rfl, k⟩
  · exact hd ρ' k
  · exact hr d k
/-- a loop that goes to its end -/
theorem Go.for {mi : Rho → R (List D)} {bd : Bnd} {xs : List D} (I : Nat → Rho → Prop) (h : mi ρ = .ok xs) (h0 : I 0 ρ)
    (hs : ∀ i x ρ, xs[i]? = some x → I i ρ → ∃ ρ1, bd x ρ = some ρ1 ∧ Go body ρ1 fun o => ∃ ρ', o = .next ρ' ∧ I (i + 1) ρ') (hd : ∀ ρ', I xs.length ρ' → P (.next ρ')) : Go (mFor mi bd body) ρ P :=
  Go.forR I (fun _ => False) h h0 (fun i x ρ hx h2 => by
    obtain ⟨ρ1, e, o, e2, k⟩ := hs i x ρ hx h2
    exact ⟨ρ1, e, o, e2, .inl k⟩) hd fun _ z => z.elim
theorem wRun_go {t : Rho → R Bool} {bb : Rho → R Out} (I : Nat → Rho → Prop) (hs : ∀ n ρ, I n ρ → ∃ c, t ρ = .ok c ∧ (c = true → Go bb ρ fun o => ∃ ρ' n', o = .next ρ' ∧ n' < n ∧ I n' ρ')) : ∀ (n : Nat) (ρ : Rho), I n ρ → ∃ ρ' n', wRun t bb ρ (.next ρ') ∧ I n' ρ' ∧ t ρ' = .ok false := by
  intro n
  induction n using Nat.strongRecOn with
  | _ n ih =>
    intro ρ h
    obtain ⟨c, e, k⟩ := hs n ρ h
    cases c with
    | false => exact ⟨ρ, n, .stop e, h, e⟩
    | true =>
      obtain ⟨o, e2, ρ1, n1, rfl, hlt, h1⟩ := k rfl
      obtain ⟨ρ', n', r, h2, h3⟩ := ih n1 hlt ρ1 h1
      exact ⟨ρ', n', .next e e2 r, h2, h3⟩
theorem Go.while {t : Rho → R Bool} (I : Nat → Rho → Prop) (n : Nat) (h0 : I n ρ) (hs : ∀ n ρ, I n ρ → ∃ c, t ρ = .ok c ∧ (c = true → Go body ρ fun o => ∃ ρ' n', o = .next ρ' ∧ n' < n ∧ I n' ρ'))
    (hd : ∀ ρ' n', I n' ρ' → t ρ' = .ok false → P (.next ρ')) : Go (mWhile t body) ρ P := by
  obtain ⟨ρ', n', r, h2, h3⟩ := wRun_go I hs n ρ h0
  exact ⟨_, mWhile_run r, hd ρ' n' h2 h3⟩
theorem fun_ok {N n : Nat} {mb : Rho → R Out} {ds : List D} {d : D} (h : Go mb (ds.map Sl.sh ++ List.replicate (N - n) Sl.no) fun o => endM o = .ok d) : mFun N n mb ds = .ok d := by
  obtain ⟨o, e, k⟩ := h
  unfold mFun
  rw [e]
  exact k
end
theorem range_mem {lo : Int} {n i : Nat} {d : D} (h : (rangeD lo n 1)[i]? = some d) : d = .int (lo + i) ∧ i < n := by
  have h1 := rangeD_get h
  obtain ⟨h2, _⟩ := List.getElem?_eq_some_iff.mp h
  rw [rangeD_len] at h2
  rw [Int.mul_one] at h1
  exact ⟨h1, h2⟩
theorem r1 {ρ : Rho} {m : Rho → R (List D)} (t : Nat) (h : m ρ = .ok [.int t]) (ht : t < 1000000) : mArgs dRange1 m ρ = .ok (rangeD 0 t 1) := by
  unfold mArgs
  rw [h]
  have hb : big (t : Int) := ⟨by omega, by omega⟩
  have e : dRange1 [.int (t : Int)] = R.grd (big (t : Int)) (.ok (rangeD 0 (t : Int).toNat 1)) := rfl
  rw [R.bind_ok, e, grd_ok hb, Int.toNat_natCast]
theorem r2 {ρ : Rho} {m : Rho → R (List D)} (a b : Nat) (h : m ρ = .ok [.int a, .int b]) (ha : a < 1000000) (hb : b < 1000000) : mArgs dRange2 m ρ = .ok (rangeD a (b - a) 1) := by
  unfold mArgs
  rw [h]
  have hb : big (a : Int) ∧ big (b : Int) := ⟨⟨by omega, by omega⟩, ⟨by omega, by omega⟩⟩
  have e : dRange2 [.int (a : Int), .int (b : Int)] = R.grd (big (a : Int) ∧ big (b : Int)) (.ok (rangeD a ((b : Int) - a).toNat 1)) := rfl
  rw [R.bind_ok, e, grd_ok hb, show ((b : Int) - a).toNat = b - a by omega]
theorem r3 {ρ : Rho} {m : Rho → R (List D)} (a : Int) (b : Int) (n : Nat) (h : m ρ = .ok [.int a, .int b, .int (-1)]) (ha : big a) (hb : big b) (hn : (a - b).toNat = n) : mArgs dRange3 m ρ = .ok (rangeD a n (-1)) := by
  unfold mArgs
  rw [h]
  have hb : big a ∧ big b ∧ (-1 : Int) = -1 := ⟨ha, hb, rfl⟩
  have e : dRange3 [.int a, .int b, .int (-1)] = R.grd (big a ∧ big b ∧ (-1 : Int) = -1) (.ok (rangeD a (a - b).toNat (-1))) := rfl
  rw [R.bind_ok, e, grd_ok hb, hn]
theorem back_mem {lo : Int} {n i : Nat} {d : D} (h : (rangeD lo n (-1))[i]? = some d) : d = .int (lo - i) ∧ i < n := by
  have h1 := rangeD_get h
  obtain ⟨h2, _⟩ := List.getElem?_eq_some_iff.mp h
  rw [rangeD_len] at h2
  rw [h1]
  exact ⟨by congr 1; omega, h2⟩
theorem en_mem {ds : List D} {i : Nat} {d : D} (h : (enumD ds)[i]? = some d) : ∃ x, ds[i]? = some x ∧ d = .tup [.int (i : Nat), x] := enumD_get h
def ti (l : List Int) : D := .tup (l.map D.int)
def li (l : List Int) : D := .lst (l.map D.int)
end Y
/-! # P3 -/
set_option Elab.async false
set_option linter.all false
set_option maxRecDepth 100000
set_option maxHeartbeats 1000000
namespace Y
open Po
/-- the digits of n to the base p, i of them, the lowest first -/
def dig (p : Int) : Nat → Int → List Int
  | 0, _ => []
  | i + 1, n => n % p :: dig p i (n / p)
theorem dig_len (p : Int) : ∀ (i : Nat) (n : Int), (dig p i n).length = i
  | 0, _ => rfl
  | i + 1, n => by rw [dig, List.length_cons, dig_len p i]
theorem div_pow {p : Int} (hp : 0 < p) (n : Int) (i : Nat) : n / p / p ^ i = n / p ^ (i + 1) := by
  rw [Int.ediv_ediv_of_nonneg (by omega), Int.pow_succ, Int.mul_comm]
theorem dig_app {p : Int} (hp : 0 < p) : ∀ (i : Nat) (n : Int), dig p (i + 1) n = dig p i n ++ [n / p ^ i % p]
  | 0, n => by simp [dig]
  | i + 1, n => by
    have h1 : dig p (i + 2) n = n % p :: dig p (i + 1) (n / p) := rfl
    rw [h1, dig_app hp i (n / p), div_pow hp]
    rfl
theorem dig_rd {p : Int} (hp : 0 < p) : ∀ (i : Nat) (n : Int), Rd p (dig p i n)
  | 0, _ => fun c hc => absurd hc List.not_mem_nil
  | i + 1, n => fun c hc => by
    rcases List.mem_cons.mp hc with z | z
    · rw [z]; exact ⟨Int.emod_nonneg _ (by omega), Int.emod_lt_of_pos _ hp⟩
    · exact dig_rd hp i (n / p) c z
theorem dig_ev {p : Int} (hp : 0 < p) : ∀ (i : Nat) (n : Int), 0 ≤ n → n < p ^ i → ev (dig p i n) p = n
  | 0, n, h0, h1 => by
    rw [Int.pow_zero] at h1
    have : n = 0 := by omega
    rw [this]; rfl
  | i + 1, n, h0, h1 => by
    rw [dig, ev, dig_ev hp i (n / p) (Int.ediv_nonneg h0 (by omega)) (by
      rw [Int.pow_succ] at h1
      exact Int.ediv_lt_of_lt_mul hp h1)]
    have := Int.emod_add_mul_ediv n p
    omega
theorem ev_bound {p : Int} (hp : 0 < p) : ∀ l : List Int, Rd p l → 0 ≤ ev l p ∧ ev l p < p ^ l.length
  | [], _ => by simp [ev]
  | a :: l, h => by
    obtain ⟨h1, h2⟩ := ev_bound hp l fun c hc => h c (List.mem_cons_of_mem _ hc)
    obtain ⟨a0, a1⟩ := h a List.mem_cons_self
    rw [ev, List.length_cons, Int.pow_succ]
    have h3 : 0 ≤ p * ev l p := Int.mul_nonneg (by omega) h1
    have h4 : p * (ev l p + 1) ≤ p * p ^ l.length := Int.mul_le_mul_of_nonneg_left (by omega) (by omega)
    have h5 : p * (ev l p + 1) = p * ev l p + p := by rw [Int.mul_add, Int.mul_one]
    have h6 : p ^ l.length * p = p * p ^ l.length := Int.mul_comm _ _
    omega
theorem dig_of {p : Int} (hp : 0 < p) : ∀ l : List Int, Rd p l → dig p l.length (ev l p) = l
  | [], _ => rfl
  | a :: l, h => by
    have hl : Rd p l := fun c hc => h c (List.mem_cons_of_mem _ hc)
    obtain ⟨a0, a1⟩ := h a List.mem_cons_self
    have e1 : (a + p * ev l p) % p = a := by
      rw [Int.add_mul_emod_self_left]
      exact Int.emod_eq_of_lt a0 a1
    have e2 : (a + p * ev l p) / p = ev l p := by
      rw [Int.add_mul_ediv_left _ _ (by omega), Int.ediv_eq_zero_of_lt a0 a1, Int.zero_add]
    rw [List.length_cons, dig, ev, e1, e2, dig_of hp l hl]
def num (p : Int) (d : Nat) (n : Int) : List Int := dig p d n ++ [1]
theorem num_len (p : Int) (d : Nat) (n : Int) : (num p d n).length = d + 1 := by simp [num, dig_len]
theorem num_mo {p : Int} (hp : 1 < p) (d : Nat) (n : Int) : Mo p (num p d n) := by
  refine ⟨fun c hc => ?_, by simp [num], ?_⟩
  · rcases List.mem_append.mp hc with z | z
    · exact dig_rd (by omega) d n c z
    · rw [List.mem_singleton.mp z]; omega
  · rw [num_len, Nat.add_sub_cancel]
    unfold co num
    rw [List.getD_eq_getElem?_getD, List.getElem?_append_right (by rw [dig_len]; exact Nat.le_refl _), dig_len, Nat.sub_self]
    rfl
theorem num_ev {p : Int} (hp : 1 < p) {d : Nat} {n : Int} (h0 : 0 ≤ n) (h1 : n < p ^ d) : ev (num p d n) p = n + p ^ d := by
  unfold num
  rw [ev_app, dig_ev (by omega) d n h0 h1, dig_len]
  simp [ev]
/-- every monic reduced row is one of the numbered ones -/
theorem mo_num {p : Int} (hp : 1 < p) {l : List Int} (m : Mo p l) : ∃ n, 0 ≤ n ∧ n < p ^ (l.length - 1) ∧ l = num p (l.length - 1) n := by
  rcases List.eq_nil_or_concat l with z | ⟨l', c, z⟩
  · exact absurd z m.ne
  · rw [List.concat_eq_append] at z
    subst z
    have hl : (l' ++ [c]).length - 1 = l'.length := by simp
    have r : Rd p l' := fun c hc => m.rd c (List.mem_append_left _ hc)
    have e := m.top
    rw [hl] at e
    have hc : c = 1 := by
      unfold co at e
      rw [List.getD_eq_getElem?_getD, List.getElem?_append_right (Nat.le_refl _), Nat.sub_self] at e
      exact e
    obtain ⟨b0, b1⟩ := ev_bound (by omega : 0 < p) l' r
    refine ⟨ev l' p, b0, by rw [hl]; exact b1, ?_⟩
    rw [hl, hc]
    unfold num
    rw [dig_of (by omega) l' r]
/-! ### the text's small functions -/
theorem sm64 {p : Int} (h0 : 1 < p) (h1 : p < 100) : small64 p := ⟨by omega, by omega⟩
namespace K05
theorem e_power {p : Int} (h0 : 1 < p) (h1 : p < 100) {t : Nat} (ht : t < 1000) : f_small_power [.int p, .int t] = .ok (.int (p ^ t)) := by
  refine fun_ok (.seq (.set rfl ⟨_, rfl, .seq (.for (fun i ρ => ρ = [.sh (.int p), .sh (.int t), .sh (.int (p ^ i)), .no]) (xs := rangeD 0 t 1) ?_ (by rw [Int.pow_zero]; rfl) ?_ ?_)⟩))
  · exact r1 t rfl (by omega)
  · rintro i x ρ hx rfl
    obtain ⟨rfl, hi⟩ := range_mem hx
    refine ⟨_, rfl, .seq (.aug rfl rfl (grd_ok (p := small64 _ ∨ small64 p) (.inr (sm64 h0 h1))) ⟨_, rfl, .no (.skip ⟨_, rfl, ?_⟩)⟩)⟩
    rw [Int.pow_succ]
    rfl
  · rintro ρ rfl
    rw [rangeD_len]
    exact ⟨_, rfl, .ret rfl rfl⟩
theorem e_lpower {p : Int} (h0 : 1 < p) (h1 : p < 100) {t : Nat} (ht : t < 1000) : f_l_power [.int p, .int t] = .ok (.int (p ^ t)) := by
  refine fun_ok (.seq (.set rfl ⟨_, rfl, .seq (.for (fun i ρ => ρ = [.sh (.int p), .sh (.int t), .sh (.int (p ^ i)), .no]) (xs := rangeD 0 t 1) ?_ (by rw [Int.pow_zero]; rfl) ?_ ?_)⟩))
  · exact r1 t rfl (by omega)
  · rintro i x ρ hx rfl
    obtain ⟨rfl, hi⟩ := range_mem hx
    refine ⟨_, rfl, .seq (.set (d := .int (p ^ i * p)) (grd_ok (p := small64 _ ∨ small64 p) (.inr (sm64 h0 h1))) ⟨_, rfl, .no (.skip ⟨_, rfl, ?_⟩)⟩)⟩
    rw [Int.pow_succ]
    rfl
  · rintro ρ rfl
    rw [rangeD_len]
    exact ⟨_, rfl, .ret rfl rfl⟩
theorem e_num {p : Int} (h0 : 1 < p) (h1 : p < 100) {d : Nat} (hd : d < 1000) (n : Int) : f_numbered_polynomial [.int p, .int d, .int n] = .ok (ti (num p d n)) := by
  refine fun_ok (.seq (.own (ds := []) (grd_ok (p := (0 : Nat) ≤ 16777216) (by decide)) ⟨_, rfl, .seq (.for (fun i ρ => ρ = [.sh (.int p), .sh (.int d), .sh (.int (n / p ^ i)), .ow ((dig p i n).map D.int), .no]) (xs := rangeD 0 d 1) ?_ ?_ ?_ ?_)⟩))
  · exact r1 d rfl (by omega)
  · rw [Int.pow_zero, Int.ediv_one]; rfl
  · rintro i x ρ hx rfl
    obtain ⟨rfl, hi⟩ := range_mem hx
    refine ⟨_, rfl, .seq (.app (d := .int (n / p ^ i % p)) rfl (grd_ok (p := 0 < p) (by omega)) (by rw [List.length_map, dig_len]; omega) ⟨_, rfl, .seq (.aug (z := .int (n / p ^ i / p)) rfl rfl (grd_ok (p := 0 < p ∧ p < 1073741824) ⟨by omega, by omega⟩) ⟨_, rfl, .no (.skip ⟨_, rfl, ?_⟩)⟩)⟩)⟩
    rw [dig_app (by omega) i n, List.map_append, Int.ediv_ediv_of_nonneg (by
      have := Int.pow_pos (n := p) (m := i) (by omega)
      omega), ← Int.pow_succ]
    rfl
  · rintro ρ rfl
    rw [rangeD_len]
    refine ⟨_, rfl, .ret (d := ti (num p d n)) ?_ rfl⟩
    have hl : ((dig p d n).map D.int).length + ([D.int 1]).length ≤ 16777216 := by rw [List.length_map, dig_len]; simp; omega
    show R.bind (R.grd (((dig p d n).map D.int).length + ([D.int 1]).length ≤ 16777216) _) _ = _
    rw [grd_ok hl]
    unfold ti num
    rw [List.map_append]
    rfl
theorem e_monic {p : Int} (h0 : 1 < p) (h1 : p < 100) {d : Nat} (hd : d < 1000) (n : Int) : f_l_monic [.int p, .int d, .int n] = .ok (li (num p d n)) := by
  refine fun_ok (.seq (.own (ds := []) (grd_ok (p := (0 : Nat) ≤ 16777216) (by decide)) ⟨_, rfl, .seq (.for (fun i ρ => ρ = [.sh (.int p), .sh (.int d), .sh (.int (n / p ^ i)), .ow ((dig p i n).map D.int), .no]) (xs := rangeD 0 d 1) ?_ ?_ ?_ ?_)⟩))
  · exact r1 d rfl (by omega)
  · rw [Int.pow_zero, Int.ediv_one]; rfl
  · rintro i x ρ hx rfl
    obtain ⟨rfl, hi⟩ := range_mem hx
    refine ⟨_, rfl, .seq (.app (d := .int (n / p ^ i % p)) rfl (grd_ok (p := 0 < p) (by omega)) (by rw [List.length_map, dig_len]; omega) ⟨_, rfl, .seq (.set (d := .int (n / p ^ i / p)) (grd_ok (p := 0 < p ∧ p < 2 ^ 200) ⟨by omega, by omega⟩) ⟨_, rfl, .no (.skip ⟨_, rfl, ?_⟩)⟩)⟩)⟩
    rw [dig_app (by omega) i n, List.map_append, Int.ediv_ediv_of_nonneg (by
      have := Int.pow_pos (n := p) (m := i) (by omega)
      omega), ← Int.pow_succ]
    rfl
  · rintro ρ rfl
    rw [rangeD_len]
    refine ⟨_, rfl, .ret (d := li (num p d n)) ?_ rfl⟩
    have hl : ((dig p d n).map D.int).length + ([D.int 1]).length ≤ 16777216 := by rw [List.length_map, dig_len]; simp; omega
    show R.grd (((dig p d n).map D.int).length + ([D.int 1]).length ≤ 16777216) _ = _
    rw [grd_ok hl]
    unfold li num
    rw [List.map_append]
    rfl
end K05
end Y
/-! # P4 -/
set_option Elab.async false
set_option linter.all false
set_option maxRecDepth 100000
set_option maxHeartbeats 1000000
namespace Y
open Po PySem
section
variable {ρ : Rho} {a b m : Rho → R D} {s t : Rho → R Bool} {ma : Rho → R (List D)} {x y z d : D} {ds : List D} {c : Bool} {n : Nat}
theorem vBin {f : D → D → R D} (ha : a ρ = .ok x) (hb : b ρ = .ok y) (h : f x y = .ok z) : mBin f a b ρ = .ok z := by
  unfold mBin
  rw [ha, R.bind_ok, hb, R.bind_ok, h]
theorem vUn {f : D → R D} (ha : a ρ = .ok x) (h : f x = .ok z) : mUn f a ρ = .ok z := by
  unfold mUn
  rw [ha, R.bind_ok, h]
theorem vBi {f : List D → R D} (ha : ma ρ = .ok ds) (h : f ds = .ok z) : mBi f ma ρ = .ok z := by
  unfold mBi
  rw [ha, R.bind_ok, h]
theorem vCons (ha : a ρ = .ok x) (h : ma ρ = .ok ds) : mCons a ma ρ = .ok (x :: ds) := by
  unfold mCons
  rw [ha, R.bind_ok, h]
  rfl
theorem v1 (ha : a ρ = .ok x) : mCons a mNil ρ = .ok [x] := vCons ha rfl
theorem v2 (ha : a ρ = .ok x) (hb : b ρ = .ok y) : mCons a (mCons b mNil) ρ = .ok [x, y] := vCons ha (vCons hb rfl)
theorem vCall {f : List D → R D} (ha : ma ρ = .ok ds) (hl : ds.length = n) (h : f ds = .ok z) : mCall n f ma ρ = .ok z := by
  unfold mCall
  rw [ha, R.bind_ok, grd_ok hl, h]
theorem vTup (ha : ma ρ = .ok ds) (hl : ds.length ≤ 16777216) : mTup ma ρ = .ok (.tup ds) := by
  unfold mTup
  rw [ha, R.bind_ok, grd_ok hl]
theorem vLst (ha : ma ρ = .ok ds) (hl : ds.length ≤ 16777216) : mLst ma ρ = .ok ds := by
  unfold mLst
  rw [ha, R.bind_ok, grd_ok hl]
theorem vFrz (ha : ma ρ = .ok ds) : mFrz ma ρ = .ok (.lst ds) := by
  unfold mFrz
  rw [ha]
  rfl
theorem vTupL (ha : m ρ = .ok (.lst ds)) : mTupC m ρ = .ok (.tup ds) := by
  unfold mTupC
  rw [ha]
  rfl
theorem vTupT (ha : m ρ = .ok (.tup ds)) : mTupC m ρ = .ok (.tup ds) := by
  unfold mTupC
  rw [ha]
  rfl
theorem vTb (h : m ρ = .ok (.bl c)) : mTb m ρ = .ok c := by
  unfold mTb
  rw [h]
  rfl
theorem vTt (h : m ρ = .ok (.bl c)) : mTt m ρ = .ok c := by
  unfold mTt
  rw [h]
  rfl
theorem vNot (h : s ρ = .ok c) : mNotT s ρ = .ok (!c) := by
  unfold mNotT
  rw [h]
  rfl
theorem vAnd (h : s ρ = .ok true) (h2 : t ρ = .ok c) : mAndT s t ρ = .ok c := by
  unfold mAndT
  rw [h, R.bind_ok, if_pos rfl, h2]
theorem vAndF (h : s ρ = .ok false) : mAndT s t ρ = .ok false := by
  unfold mAndT
  rw [h, R.bind_ok, if_neg Bool.false_ne_true]
theorem vOr (h : s ρ = .ok false) (h2 : t ρ = .ok c) : mOrT s t ρ = .ok c := by
  unfold mOrT
  rw [h, R.bind_ok, if_neg Bool.false_ne_true, h2]
theorem vOrT (h : s ρ = .ok true) : mOrT s t ρ = .ok true := by
  unfold mOrT
  rw [h, R.bind_ok, if_pos rfl]
theorem vIfT (h : s ρ = .ok true) (h2 : a ρ = .ok x) : mIfE s a b ρ = .ok x := by
  unfold mIfE
  rw [h, R.bind_ok, if_pos rfl, h2]
theorem vIfF (h : s ρ = .ok false) (h2 : b ρ = .ok x) : mIfE s a b ρ = .ok x := by
  unfold mIfE
  rw [h, R.bind_ok, if_neg Bool.false_ne_true, h2]
end
/-! ### rows of ints as data -/
theorem ix_li {l : List Int} {i : Nat} (h : i < l.length) : dIx (li l) (.int i) = .ok (.int (co l i)) := by
  have e : atD (l.map D.int) (i : Int) = some (.int (co l i)) := by
    unfold atD
    rw [if_pos (by omega), Int.toNat_natCast, List.getElem?_map, List.getElem?_eq_getElem h, co_get h]
    rfl
  show (match atD (l.map D.int) (i : Int) with | some d => R.ok d | none => .stuck) = _
  rw [e]
theorem ix_ti {l : List Int} {i : Nat} (h : i < l.length) : dIx (ti l) (.int i) = .ok (.int (co l i)) := by
  have e : atD (l.map D.int) (i : Int) = some (.int (co l i)) := by
    unfold atD
    rw [if_pos (by omega), Int.toNat_natCast, List.getElem?_map, List.getElem?_eq_getElem h, co_get h]
    rfl
  show (match atD (l.map D.int) (i : Int) with | some d => R.ok d | none => .stuck) = _
  rw [e]
theorem last_of {l : List Int} (h : l ≠ []) : atD (l.map D.int) (-1) = some (.int (co l (l.length - 1))) := by
  have := List.length_pos_iff.mpr h
  unfold atD
  rw [if_neg (by decide), List.length_map, if_pos (by omega), show (-1 + (l.length : Int)).toNat = l.length - 1 by omega, List.getElem?_map, List.getElem?_eq_getElem (by omega), co_get (by omega)]
  rfl
theorem last_ti {l : List Int} (h : l ≠ []) : dIx (ti l) (.int (-1)) = .ok (.int (co l (l.length - 1))) := by
  show (match atD (l.map D.int) (-1) with | some d => R.ok d | none => .stuck) = _
  rw [last_of h]
theorem last_li {l : List Int} (h : l ≠ []) : dIx (li l) (.int (-1)) = .ok (.int (co l (l.length - 1))) := by
  show (match atD (l.map D.int) (-1) with | some d => R.ok d | none => .stuck) = _
  rw [last_of h]
theorem len_li (l : List Int) : dLen [li l] = .ok (.int l.length) := by
  show R.ok (D.int ((l.map D.int).length : Nat)) = _
  rw [List.length_map]
theorem len_ti (l : List Int) : dLen [ti l] = .ok (.int l.length) := by
  show R.ok (D.int ((l.map D.int).length : Nat)) = _
  rw [List.length_map]
theorem ixN_nat {n i : Nat} (h : i < n) : L2.ixN n (i : Int) = some i := by
  unfold L2.ixN
  rw [if_pos (by omega), if_pos (by omega), Int.toNat_natCast]
theorem py_ints : ∀ ns : List Int, D.pyL (ns.map D.int) = ns.map PyData.int ∧ D.plainL (ns.map D.int) = true
  | [] => ⟨by simp [D.pyL], by simp [D.plainL]⟩
  | n :: ns => by
    obtain ⟨h1, h2⟩ := py_ints ns
    exact ⟨by simp [D.pyL, D.py, h1], by simp [D.plainL, D.plain, h2]⟩
theorem eq_ii (i j : Int) : dEq (.int i) (.int j) = .ok (.bl (decide (i = j))) := by
  have h : cmpOk (.int i) (.int j) = true := by simp [cmpOk, D.plain, D.py, shaped_int]
  unfold dEq
  rw [grd_ok h]
  simp only [D.py, PyData.eqv]
  by_cases e : i = j <;> simp [e]
theorem ne_ii (i j : Int) : dNe (.int i) (.int j) = .ok (.bl (!decide (i = j))) := by
  have h : cmpOk (.int i) (.int j) = true := by simp [cmpOk, D.plain, D.py, shaped_int]
  unfold dNe
  rw [grd_ok h]
  simp only [D.py, PyData.eqv]
  by_cases e : i = j <;> simp [e]
theorem eq_ll (a b : List Int) : dEq (li a) (li b) = .ok (.bl (decide (a = b))) := by
  obtain ⟨a1, a2⟩ := py_ints a
  obtain ⟨b1, b2⟩ := py_ints b
  have h : cmpOk (li a) (li b) = true := by simp [cmpOk, li, D.plain, D.py, a1, a2, b1, b2, shaped_ints]
  unfold dEq
  rw [grd_ok h]
  simp only [li, D.py, PyData.eqv, a1, b1, eqvAll_ints]
theorem ne_ll (a b : List Int) : dNe (li a) (li b) = .ok (.bl (!decide (a = b))) := by
  obtain ⟨a1, a2⟩ := py_ints a
  obtain ⟨b1, b2⟩ := py_ints b
  have h : cmpOk (li a) (li b) = true := by simp [cmpOk, li, D.plain, D.py, a1, a2, b1, b2, shaped_ints]
  unfold dNe
  rw [grd_ok h]
  simp only [li, D.py, PyData.eqv, a1, b1, eqvAll_ints]
theorem eq_tt (a b : List Int) : dEq (ti a) (ti b) = .ok (.bl (decide (a = b))) := by
  obtain ⟨a1, a2⟩ := py_ints a
  obtain ⟨b1, b2⟩ := py_ints b
  have h : cmpOk (ti a) (ti b) = true := by simp [cmpOk, ti, D.plain, D.py, a1, a2, b1, b2, shaped_tints]
  unfold dEq
  rw [grd_ok h]
  simp only [ti, D.py, PyData.eqv, a1, b1, eqvAll_ints]
/-- without the zeros at its end -/
def trim : List Int → List Int
  | [] => []
  | a :: l => if trim l = [] ∧ a = 0 then [] else a :: trim l
theorem trim_ev : ∀ (l : List Int) (x : Int), ev (trim l) x = ev l x
  | [], x => rfl
  | a :: l, x => by
    have h := trim_ev l x
    unfold trim
    split
    · rename_i z
      rw [z.1] at h
      show ev [] x = a + x * ev l x
      rw [← h, z.2]
      simp [ev]
    · rw [ev, ev, h]
theorem trim_nil : ∀ l : List Int, trim l = [] ↔ ∀ c ∈ l, c = 0
  | [] => ⟨fun _ c hc => absurd hc List.not_mem_nil, fun _ => rfl⟩
  | a :: l => by
    have ih := trim_nil l
    unfold trim
    constructor
    · intro h c hc
      split at h
      · rename_i z
        rcases List.mem_cons.mp hc with y | y
        · rw [y, z.2]
        · exact ih.mp z.1 c y
      · cases h
    · intro h
      rw [if_pos ⟨ih.mpr fun c hc => h c (List.mem_cons_of_mem _ hc), h a List.mem_cons_self⟩]
theorem trim_zero : ∀ l : List Int, trim (l ++ [0]) = trim l
  | [] => by simp [trim]
  | a :: l => by
    rw [List.cons_append, trim, trim, trim_zero l]
theorem trim_top : ∀ (l : List Int) (c : Int), c ≠ 0 → trim (l ++ [c]) = l ++ [c]
  | [], c, h => by simp [trim, h]
  | a :: l, c, h => by
    rw [List.cons_append, trim, trim_top l c h, if_neg (by simp)]
theorem trim_id {l : List Int} (h : l ≠ []) (t : co l (l.length - 1) ≠ 0) : trim l = l := by
  rcases List.eq_nil_or_concat l with z | ⟨l', c, z⟩
  · exact absurd z h
  · rw [List.concat_eq_append] at z
    subst z
    refine trim_top l' c ?_
    have hl : (l' ++ [c]).length - 1 = l'.length := by simp
    rw [hl] at t
    unfold co at t
    rw [List.getD_eq_getElem?_getD, List.getElem?_append_right (Nat.le_refl _), Nat.sub_self] at t
    exact t
theorem trim_rd {p : Int} : ∀ {l : List Int}, Rd p l → Rd p (trim l)
  | [], h => h
  | a :: l, h => fun c hc => by
    unfold trim at hc
    split at hc
    · exact absurd hc List.not_mem_nil
    · rcases List.mem_cons.mp hc with z | z
      · rw [z]; exact h a List.mem_cons_self
      · exact trim_rd (fun c hc => h c (List.mem_cons_of_mem _ hc)) c z
theorem take_map (l : List Int) (n : Nat) : (l.map D.int).take n = (l.take n).map D.int := by rw [List.map_take]
theorem cut_upto {l : List D} (n : Nat) (h : n ≤ l.length) : cutD l none (some (n : Int)) = l.take n := by
  unfold cutD
  rw [show HT.sIx l.length l.length (some (n : Int)) = min n l.length from HT.sIx_nat l.length l.length n, HT.sIx_none, List.drop_zero, Nat.sub_zero, Nat.min_eq_left h]
end Y
/-! # P5 -/
set_option Elab.async false
set_option linter.all false
set_option maxRecDepth 100000
set_option maxHeartbeats 1000000
namespace Y
open Po PySem
def mono (n : Nat) (k : Int) : List Int := List.replicate n 0 ++ [k]
theorem ev_mono (n : Nat) (k x : Int) : ev (mono n k) x = x ^ n * k := by
  unfold mono
  rw [ev_app, ev_zeros, List.length_replicate]
  simp [ev]
theorem ev_take_succ {g : List Int} {j : Nat} (h : j < g.length) (x : Int) : ev (g.take (j + 1)) x = ev (g.take j) x + co g j * x ^ j := by
  rw [List.take_add_one, List.getElem?_eq_getElem h, ev_app, List.length_take, Nat.min_eq_left (by omega), co_get h]
  simp only [Option.toList_some, ev]
  grind
theorem co_set {l : List Int} {i : Nat} (v : Int) (h : i < l.length) (k : Nat) : co (l.set i v) k = if k = i then v else co l k := by
  unfold co
  rw [List.getD_eq_getElem?_getD, List.getElem?_set, List.getD_eq_getElem?_getD]
  by_cases e : i = k
  · subst e
    rw [if_pos rfl, if_pos rfl]
    simp [h]
  · rw [if_neg e, if_neg (Ne.symm e)]
theorem rd_set {p : Int} {l : List Int} {i : Nat} {v : Int} (h : Rd p l) (h0 : 0 ≤ v) (h1 : v < p) : Rd p (l.set i v) := fun c hc => by
  rcases List.mem_or_eq_of_mem_set hc with z | z
  · exact h c z
  · rw [z]; exact ⟨h0, h1⟩
theorem map_set (l : List Int) (i : Nat) (v : Int) : (l.map D.int).set i (.int v) = (l.set i v).map D.int := by rw [List.map_set]
theorem sm_rd {p c : Int} (h0 : 0 ≤ c) (h1 : c < p) (h2 : p < 100) : small64 c := ⟨by omega, by omega⟩
namespace K05
theorem e_trimmed {l : List Int} (hl : l.length < 100000) : f_trimmed_off [li l] = .ok (ti (trim l)) := by
  refine fun_ok (.seq (.set (vBi (v1 rfl) (len_li l)) ⟨_, rfl, .seq (.while (fun n ρ => ∃ e : Nat, n = e ∧ e ≤ l.length ∧ ρ = [.sh (li l), .sh (.int e)] ∧ trim l = trim (l.take e)) l.length ⟨l.length, rfl, Nat.le_refl _, rfl, by rw [List.take_length]⟩ ?_ ?_)⟩))
  · rintro n ρ ⟨e, rfl, he, rfl, ht⟩
    rcases Nat.eq_zero_or_pos n with z | z
    · subst z
      exact ⟨false, vAndF (vTb (vBin rfl rfl rfl)), fun q => absurd q Bool.false_ne_true⟩
    · obtain ⟨e, rfl⟩ : ∃ e, n = e + 1 := ⟨n - 1, by omega⟩
      have h1 : mTb (mBin dGt (mVarB 1) (mC (.int 0))) [.sh (li l), .sh (.int ((e + 1 : Nat) : Int))] = .ok true := vTb (vBin rfl rfl (by
        show R.ok (D.bl (decide ((0 : Int) < ((e + 1 : Nat) : Int)))) = _
        rw [decide_eq_true (by omega)]))
      have h2 : mBin dSub (mVarB 1) (mC (.int 1)) [.sh (li l), .sh (.int ((e + 1 : Nat) : Int))] = .ok (.int e) := vBin rfl rfl (by
        show R.ok (D.int (((e + 1 : Nat) : Int) - 1)) = _
        rw [show ((e + 1 : Nat) : Int) - 1 = e by omega])
      refine ⟨decide (co l e = 0), vAnd h1 (vTb (vBin (vBin rfl h2 (ix_li (by omega))) rfl (eq_ii _ _))), fun q => ?_⟩
      have hc := of_decide_eq_true q
      refine .aug rfl rfl (z := .int e) (by
        show R.ok (D.int (((e + 1 : Nat) : Int) - 1)) = _
        rw [show ((e + 1 : Nat) : Int) - 1 = e by omega]) ⟨_, e, rfl, Nat.lt_succ_self _, e, rfl, by omega, rfl, ?_⟩
      rw [ht, List.take_add_one, List.getElem?_eq_getElem (by omega)]
      rw [co_get (by omega)] at hc
      rw [hc]
      exact trim_zero _
  · rintro ρ n ⟨e, rfl, he, rfl, ht⟩ hf
    refine ⟨_, rfl, .ret (d := ti (trim l)) ?_ rfl⟩
    have h3 : mTupC (mCut (mVarB 0) mNone (mPart (mVarB 1))) [.sh (li l), .sh (.int (n : Int))] = .ok (.tup (cutD (l.map D.int) none (some (n : Int)))) := vTupL rfl
    rw [h3, cut_upto n (by rw [List.length_map]; exact he), take_map]
    have h4 : trim l = l.take n := by
      rw [ht]
      rcases Nat.eq_zero_or_pos n with z | z
      · subst z; rfl
      · obtain ⟨e, rfl⟩ : ∃ e, n = e + 1 := ⟨n - 1, by omega⟩
        have h1 : mTb (mBin dGt (mVarB 1) (mC (.int 0))) [.sh (li l), .sh (.int ((e + 1 : Nat) : Int))] = .ok true := vTb (vBin rfl rfl (by
          show R.ok (D.bl (decide ((0 : Int) < ((e + 1 : Nat) : Int)))) = _
          rw [decide_eq_true (by omega)]))
        have h2 : mBin dSub (mVarB 1) (mC (.int 1)) [.sh (li l), .sh (.int ((e + 1 : Nat) : Int))] = .ok (.int e) := vBin rfl rfl (by
          show R.ok (D.int (((e + 1 : Nat) : Int) - 1)) = _
          rw [show ((e + 1 : Nat) : Int) - 1 = e by omega])
        have h5 : mAndT (mTb (mBin dGt (mVarB 1) (mC (.int 0)))) (mTb (mBin dEq (mBin dIx (mVarB 0) (mBin dSub (mVarB 1) (mC (.int 1)))) (mC (.int 0)))) [.sh (li l), .sh (.int ((e + 1 : Nat) : Int))] = .ok (decide (co l e = 0)) := vAnd h1 (vTb (vBin (vBin rfl h2 (ix_li (by omega))) rfl (eq_ii _ _)))
        rw [h5] at hf
        have hc : ¬ co l e = 0 := of_decide_eq_false (R.ok.inj hf)
        refine trim_id (by intro z; have := congrArg List.length z; rw [List.length_take, Nat.min_eq_left he, List.length_nil] at this; omega) ?_
        rw [List.length_take, Nat.min_eq_left he, Nat.add_sub_cancel]
        have : co (l.take (e + 1)) e = co l e := by
          rw [co_get (by rw [List.length_take]; omega), co_get (by omega), List.getElem_take]
        rw [this]
        exact hc
    rw [h4]
    rfl
/-- one round of taking away top times the other one -/
theorem e_inner {p : Int} (hp0 : 1 < p) (hp1 : p < 100) {r g : List Int} {at' m : Nat} {top : Int} (hr : Rd p r) (hg : Rd p g) (hgl : g.length = m + 1) (hlen : at' + m < r.length) (t0 : 0 ≤ top) (t1 : top < p) {j : Nat} (hj : j < m + 1) {r1 h1 : List Int}
    (l1 : r1.length = r.length) (rd1 : Rd p r1) (e1 : ∀ x, ev r x = ev r1 x + x ^ at' * top * ev (g.take j) x + p * ev h1 x) (c1 : ∀ k, co r1 k = if at' ≤ k ∧ k < at' + j then (co r k - top * co g (k - at')) % p else co r k) :
    ∃ h2, (r1.set (at' + j) ((co r1 (at' + j) - top * co g j) % p)).length = r.length ∧ Rd p (r1.set (at' + j) ((co r1 (at' + j) - top * co g j) % p)) ∧ (∀ x, ev r x = ev (r1.set (at' + j) ((co r1 (at' + j) - top * co g j) % p)) x + x ^ at' * top * ev (g.take (j + 1)) x + p * ev h2 x) ∧
      ∀ k, co (r1.set (at' + j) ((co r1 (at' + j) - top * co g j) % p)) k = if at' ≤ k ∧ k < at' + (j + 1) then (co r k - top * co g (k - at')) % p else co r k := by
  have hi : at' + j < r1.length := by omega
  have v0 := Int.emod_nonneg (co r1 (at' + j) - top * co g j) (show p ≠ 0 by omega)
  have v1 := Int.emod_lt_of_pos (co r1 (at' + j) - top * co g j) (show 0 < p by omega)
  have vd := Int.emod_add_mul_ediv (co r1 (at' + j) - top * co g j) p
  refine ⟨add h1 (mono (at' + j) ((co r1 (at' + j) - top * co g j) / p)), by rw [List.length_set]; exact l1, rd_set rd1 v0 v1, fun x => ?_, fun k => ?_⟩
  · rw [e1 x, ev_set _ _ _ _ hi, ev_take_succ (by omega), ev_add, ev_mono, Int.pow_add]
    have : (co r1 (at' + j) - top * co g j) % p = co r1 (at' + j) - top * co g j - p * ((co r1 (at' + j) - top * co g j) / p) := by omega
    rw [this]
    grind
  · rw [co_set _ hi]
    by_cases hk : k = at' + j
    · subst hk
      rw [if_pos rfl, if_pos ⟨by omega, by omega⟩, Nat.add_sub_cancel_left, c1, if_neg (by omega)]
    · rw [if_neg hk, c1]
      by_cases h2 : at' ≤ k ∧ k < at' + j
      · rw [if_pos h2, if_pos ⟨h2.1, by omega⟩]
      · rw [if_neg h2, if_neg (by omega)]
/-- the rest and the quotient, so far -/
structure Div (p : Int) (a g : List Int) (m i : Nat) (q r : List Int) : Prop where
  ql : q.length = a.length - m
  qr : Rd p q
  rl : r.length = a.length
  rr : Rd p r
  z : ∀ j, a.length - i ≤ j → m ≤ j → co r j = 0
  q0 : ∀ j, j < a.length - m - i → co q j = 0
  st : i = 0 → r = a
  top : 1 ≤ i → co q (a.length - m - 1) = co a (a.length - 1)
  e : ∃ h, ∀ x, ev a x = ev q x * ev g x + ev r x + p * ev h x
theorem Div.first {p : Int} (hp : 0 < p) {a g : List Int} {m : Nat} (ha : Rd p a) : Div p a g m 0 (List.replicate (a.length - m) 0) a where
  ql := List.length_replicate
  qr := fun c hc => by rw [List.eq_of_mem_replicate hc]; omega
  rl := rfl
  rr := ha
  z := fun j h _ => co_big (by omega)
  q0 := fun j h => by
    rw [co_get (by rw [List.length_replicate]; omega), List.getElem_replicate]
  st := fun _ => rfl
  top := fun h => absurd h (by decide)
  e := ⟨[], fun x => by rw [ev_zeros]; simp [ev]⟩
/-- a turn: place at', top taken off -/
theorem Div.step {p : Int} (hp : 1 < p) {a g q r r1 : List Int} {m i at' : Nat} (h : Div p a g m i q r) (hgl : g.length = m + 1) (hg1 : co g m = 1) (hat : at' + 1 + i = a.length - m) (l1 : r1.length = r.length) (rd1 : Rd p r1)
    (e1 : ∃ h1, ∀ x, ev r x = ev r1 x + x ^ at' * co r (at' + m) * ev g x + p * ev h1 x) (c1 : ∀ k, co r1 k = if at' ≤ k ∧ k < at' + (m + 1) then (co r k - co r (at' + m) * co g (k - at')) % p else co r k) : Div p a g m (i + 1) (q.set at' (co r (at' + m))) r1 where
  ql := by rw [List.length_set]; exact h.ql
  qr := rd_set h.qr (h.rr.co (by omega) _).1 (h.rr.co (by omega) _).2
  rl := by rw [l1]; exact h.rl
  rr := rd1
  z := fun j hj hm => by
    rw [c1]
    by_cases hk : j = at' + m
    · subst hk
      rw [if_pos ⟨by omega, by omega⟩, Nat.add_sub_cancel_left, hg1, Int.mul_one, Int.sub_self]
      exact Int.zero_emod p
    · rw [if_neg (by omega)]
      exact h.z j (by omega) hm
  q0 := fun j hj => by
    rw [co_set _ (by rw [h.ql]; omega), if_neg (by omega)]
    exact h.q0 j (by omega)
  st := fun z => absurd z (by omega)
  top := fun _ => by
    rw [co_set _ (by rw [h.ql]; omega)]
    rcases Nat.eq_zero_or_pos i with z | z
    · subst z
      rw [if_pos (by omega), h.st rfl, show at' + m = a.length - 1 by omega]
    · rw [if_neg (by omega)]
      exact h.top z
  e := by
    obtain ⟨h1, e1⟩ := e1
    obtain ⟨h0, e0⟩ := h.e
    refine ⟨add h0 h1, fun x => ?_⟩
    have y := e1 x
    rw [ev_set _ _ _ _ (by rw [h.ql]; omega), h.q0 at' (by omega), e0 x, ev_add]
    grind
end K05
end Y
/-! # P6 -/
set_option Elab.async false
set_option linter.all false
set_option maxRecDepth 100000
set_option maxHeartbeats 2000000
namespace Y
open Po PySem
theorem fun_go {N n : Nat} {mb : Rho → R Out} {ds : List D} {P : Out → Prop} (h : Go mb (ds.map Sl.sh ++ List.replicate (N - n) Sl.no) P) : ∃ o, P o ∧ mFun N n mb ds = endM o := by
  obtain ⟨o, e, k⟩ := h
  refine ⟨o, k, ?_⟩
  unfold mFun
  rw [e]
  rfl
theorem flat_rep (n : Nat) (d : D) : (List.replicate n [d]).flatten = List.replicate n d := by
  induction n with
  | zero => rfl
  | succ n ih => rw [List.replicate_succ, List.flatten_cons, ih, List.replicate_succ]; rfl
theorem vMulL {ρ : Rho} {a b : Rho → R D} {d : D} {n : Nat} (ha : a ρ = .ok (.lst [d])) (hb : b ρ = .ok (.int n)) (hn : n < 1000000) : mMulL a b ρ = .ok (List.replicate n d) := by
  unfold mMulL
  rw [ha, R.bind_ok, hb, R.bind_ok]
  show R.grd (-(2 ^ 63) ≤ (n : Int) ∧ (n : Int) < 2 ^ 63 ∧ ([d]).length * (n : Int).toNat ≤ 16777216) _ = _
  rw [grd_ok ⟨by omega, by omega, by rw [Int.toNat_natCast]; show 1 * n ≤ 16777216; omega⟩, Int.toNat_natCast, flat_rep]
theorem add_nn (i j : Nat) : dAdd (.int i) (.int j) = .ok (.int (i + j : Nat)) := by
  show R.ok (D.int ((i : Int) + j)) = _
  rw [Int.natCast_add]
theorem mod_ii {i p : Int} (h : 0 < p) : dMod (.int i) (.int p) = .ok (.int (i % p)) := grd_ok h
theorem mul_ii {i j : Int} (h : small64 i ∨ small64 j) : dMul (.int i) (.int j) = .ok (.int (i * j)) := grd_ok h
theorem sub1 {n m : Nat} (h : n = m + 1) : dSub (.int n) (.int 1) = .ok (.int m) := by
  show R.ok (D.int ((n : Int) - 1)) = _
  rw [h, show ((m + 1 : Nat) : Int) - 1 = m by omega]
theorem li_len (l : List Int) : (l.map D.int).length = l.length := List.length_map ..
namespace K05
theorem e_rest {p : Int} {a g : List Int} {m : Nat} (hp0 : 1 < p) (hp1 : p < 100) (ha : Rd p a) (hg : Rd p g) (hgl : g.length = m + 1) (hg1 : co g m = 1) (hal : a.length < 1000) (hm : m < 1000) :
    ∃ q r, f_polynomial_rest [.int p, ti a, ti g] = .ok (.tup [ti (trim q), ti (trim r)]) ∧ Div p a g m (a.length - m) q r := by
  have key : ∃ o, (∃ q r, o = .ret (.tup [ti (trim q), ti (trim r)]) ∧ Div p a g m (a.length - m) q r) ∧ f_polynomial_rest [.int p, ti a, ti g] = endM o := by
    refine fun_go (.seq (.par2 (x := .ow (a.map D.int)) (y := .sh (.int m)) rfl ?_ ⟨_, rfl, .seq (.own (ds := (List.replicate (a.length - m) 0).map D.int) ?_ ⟨_, rfl, .seq
      (.for (fun i ρ => ∃ q r, ρ = [.sh (.int p), .sh (ti a), .sh (ti g), .ow (q.map D.int), .no, .ow (r.map D.int), .sh (.int m), .no, .no, .no] ∧ Div p a g m i q r) (xs := rangeD ((a.length - m : Nat) - 1 : Int) (a.length - m) (-1)) ?_ ?_ ?_ ?_)⟩)⟩))
    · have h : mBin dSub (mBi dLen (mCons (mVarB 2) mNil)) (mC (.int 1)) [.sh (.int p), .sh (ti a), .sh (ti g), .no, .no, .no, .no, .no, .no, .no] = .ok (.int m) := vBin (vBi (v1 rfl) (len_ti g)) rfl (sub1 hgl)
      show (mBin dSub (mBi dLen (mCons (mVarB 2) mNil)) (mC (.int 1)) [.sh (.int p), .sh (ti a), .sh (ti g), .no, .no, .no, .no, .no, .no, .no]).bind _ = _
      rw [h]
      rfl
    · rw [List.map_replicate]
      refine vMulL rfl (vBi (v2 (vBin (vBi (v1 rfl) (len_ti a)) rfl rfl) rfl) ?_) (by omega)
      show R.ok (D.int (if (0 : Int) > (a.length : Int) - (m : Int) then 0 else (a.length : Int) - (m : Int))) = _
      congr 2
      split <;> omega
    · refine r3 _ (-1) _ (vCons (vBin (vBi (v1 rfl) (len_li _)) rfl ?_) rfl) ⟨by omega, by omega⟩ ⟨by omega, by omega⟩ (by omega)
      show R.ok (D.int ((List.replicate (a.length - m) (0 : Int)).length - 1)) = _
      rw [List.length_replicate]
    · exact ⟨_, _, rfl, .first (by omega) ha⟩
    · rintro i x ρ hx ⟨q, r, rfl, dv⟩
      obtain ⟨rfl, hi⟩ := back_mem hx
      obtain ⟨at', hat⟩ : ∃ at', at' + 1 + i = a.length - m := ⟨a.length - m - 1 - i, by omega⟩
      rw [show (((a.length - m : Nat) : Int) - 1 - (i : Int)) = (at' : Int) by omega]
      refine ⟨_, rfl, ?_⟩
      have hlen : at' + m < r.length := by rw [dv.rl]; omega
      have tt := dv.rr.co (show 0 < p by omega) (at' + m)
      refine .seq (.set (d := .int (co r (at' + m))) (vBin rfl (vBin rfl rfl (add_nn at' m)) (ix_li hlen)) ⟨_, rfl, ?_⟩)
      refine .seq (.store rfl rfl rfl (ixN_nat (by rw [li_len, dv.ql]; omega)) ⟨_, rfl, ?_⟩)
      refine .seq (.for (fun j ρ => ∃ r1, ρ = [.sh (.int p), .sh (ti a), .sh (ti g), .ow ((q.set at' (co r (at' + m))).map D.int), .sh (.int at'), .ow (r1.map D.int), .sh (.int m), .sh (.int (co r (at' + m))), .no, .no] ∧ r1.length = r.length ∧ Rd p r1 ∧
          (∃ h1, ∀ x, ev r x = ev r1 x + x ^ at' * co r (at' + m) * ev (g.take j) x + p * ev h1 x) ∧ ∀ k, co r1 k = if at' ≤ k ∧ k < at' + j then (co r k - co r (at' + m) * co g (k - at')) % p else co r k) (xs := enumD (g.map D.int)) rfl ?_ ?_ ?_)
      · refine ⟨r, ?_, rfl, dv.rr, ⟨[], fun x => by simp [ev]⟩, fun k => by rw [if_neg (by omega)]⟩
        rw [← map_set]
        rfl
      · rintro j y ρ hy ⟨r1, rfl, l1, rd1, ⟨h1, e1⟩, c1⟩
        obtain ⟨z, hz, rfl⟩ := en_mem hy
        rw [List.getElem?_map] at hz
        cases hgj : g[j]? with
        | none => rw [hgj] at hz; cases hz
        | some gj =>
          rw [hgj] at hz
          cases hz
          obtain ⟨hj, ej⟩ := List.getElem?_eq_some_iff.mp hgj
          have ej : gj = co g j := by rw [co_get hj, ej]
          subst ej
          obtain ⟨h2, a1, a2, a3, a4⟩ := e_inner hp0 hp1 dv.rr hg hgl hlen tt.1 tt.2 (by omega : j < m + 1) l1 rd1 e1 c1
          refine ⟨_, rfl, .seq (.store (v := .int ((co r1 (at' + j) - co r (at' + m) * co g j) % p)) (j := ((at' + j : Nat) : Int)) (n := at' + j) rfl ?_ (vBin rfl rfl (add_nn at' j)) (ixN_nat (by rw [li_len]; omega)) ⟨_, rfl, .no (.no (.skip ⟨_, rfl, _, ?_, a1, a2, ⟨h2, a3⟩, a4⟩))⟩)⟩
          · exact vBin (vBin (vBin rfl (vBin rfl rfl (add_nn at' j)) (ix_li (by omega))) (vBin rfl rfl (mul_ii (.inl (sm_rd tt.1 tt.2 hp1)))) rfl) rfl (mod_ii (by omega))
          · rw [map_set r1]
            rfl
      · rintro ρ ⟨r1, rfl, l1, rd1, ⟨h1, e1⟩, c1⟩
        rw [enumD_len, li_len, hgl] at e1 c1
        rw [show g.take (m + 1) = g by rw [← hgl]; exact List.take_length] at e1
        exact ⟨_, rfl, .no (.no (.no (.no (.skip ⟨_, rfl, _, _, rfl, dv.step hp0 hgl hg1 hat l1 rd1 ⟨h1, e1⟩ c1⟩))))⟩
    · rintro ρ ⟨q, r, rfl, dv⟩
      rw [rangeD_len] at dv
      refine ⟨_, rfl, .frz rfl (.frz rfl (.ret (d := .tup [ti (trim q), ti (trim r)]) (vTup (v2 (vCall (v1 rfl) rfl (e_trimmed (by rw [dv.ql]; omega))) (vCall (v1 rfl) rfl (e_trimmed (by rw [dv.rl]; omega)))) (by show 2 ≤ 16777216; decide)) ⟨q, r, rfl, dv⟩))⟩
  obtain ⟨o, ⟨q, r, rfl, dv⟩, e⟩ := key
  exact ⟨q, r, e, dv⟩
end K05
end Y
/-! # P7 -/
set_option Elab.async false
set_option linter.all false
set_option maxRecDepth 100000
set_option maxHeartbeats 2000000
namespace Y
open Po PySem
theorem drop_zero {r : List Int} {m : Nat} (h : ∀ j, m ≤ j → co r j = 0) : ∀ c ∈ r.drop m, c = 0 := fun c hc => by
  obtain ⟨i, hi, rfl⟩ := List.mem_iff_getElem.mp hc
  rw [List.length_drop] at hi
  rw [List.getElem_drop, ← co_get (by omega)]
  exact h _ (by omega)
theorem ev_cut {r : List Int} {m : Nat} (h : ∀ j, m ≤ j → co r j = 0) (x : Int) : ev (r.take m) x = ev r x := by
  have e : ev (r.take m ++ r.drop m) x = ev r x := by rw [List.take_append_drop]
  rw [ev_app, ev_zero (drop_zero h), Int.mul_zero, Int.add_zero] at e
  exact e
theorem rd_take {p : Int} {r : List Int} (h : Rd p r) (m : Nat) : Rd p (r.take m) := fun c hc => h c (List.mem_of_mem_take hc)
namespace K05
theorem Div.end {p : Int} {a g q r : List Int} {m : Nat} (d : Div p a g m (a.length - m) q r) : ∀ j, m ≤ j → co r j = 0 := fun j hj => by
  by_cases h : m ≤ a.length
  · exact d.z j (by omega) hj
  · exact co_big (by rw [d.rl]; omega)
theorem Div.iff {p : Int} {a g q r : List Int} {m : Nat} (hp : 1 < p) (mg : Mo p g) (hgl : g.length = m + 1) (d : Div p a g m (a.length - m) q r) : (∀ c ∈ r.take m, c = 0) ↔ Dv p g a := by
  have hg1 : co g m = 1 := by have := mg.top; rw [hgl, Nat.add_sub_cancel] at this; exact this
  obtain ⟨h, e⟩ := d.e
  have e' : ∀ x, ev a x = ev q x * ev g x + ev (r.take m) x + p * ev h x := fun x => by rw [ev_cut d.end]; exact e x
  exact ⟨fun z => Dv.of_rest e' z, fun dv => dv.rest (by omega) hgl hg1 (by rw [List.length_take]; exact Nat.min_le_left _ _) (rd_take d.rr m) e'⟩
theorem Div.left {p : Int} {a g q r : List Int} {m : Nat} (hp : 1 < p) (mg : Mo p g) (hgl : g.length = m + 1) (d : Div p a g m (a.length - m) q r) : trim r = [] ↔ Dv p g a := by
  rw [← d.iff hp mg hgl, trim_nil]
  constructor
  · exact fun h c hc => h c (List.mem_of_mem_take hc)
  · intro h c hc
    rw [← List.take_append_drop m r] at hc
    rcases List.mem_append.mp hc with z | z
    · exact h c z
    · exact drop_zero d.end c z
/-- what comes out where it goes -/
theorem Div.quot {p : Int} {a g q r : List Int} {m : Nat} (hp : 1 < p) (ma : Mo p a) (mg : Mo p g) (hgl : g.length = m + 1) (d : Div p a g m (a.length - m) q r) (dv : Dv p g a) : m + 1 ≤ a.length ∧ trim q = q ∧ Mo p q ∧ q.length = a.length - m ∧ ∃ h, ∀ x, ev a x = ev q x * ev g x + p * ev h x := by
  have hl : m + 1 ≤ a.length := by rw [← hgl]; exact dv.len hp mg ma
  have lq := d.ql
  have tq : co q (q.length - 1) = 1 := by rw [lq, d.top (by omega)]; exact ma.top
  have nq : q ≠ [] := fun z => by rw [z] at lq; simp at lq; omega
  obtain ⟨h, e⟩ := d.e
  refine ⟨hl, trim_id nq (by rw [tq]; decide), ⟨d.qr, nq, tq⟩, lq, h, fun x => ?_⟩
  rw [e x, ev_zero ((trim_nil r).mp ((d.left hp mg hgl).mpr dv))]
  grind
theorem vMulZ {ρ : Rho} {a b : Rho → R D} {n : Nat} (ha : a ρ = .ok (.lst [.int 0])) (hb : b ρ = .ok (.int n)) (hn : n < 1000000) : mBin dMul a b ρ = .ok (li (List.replicate n 0)) := by
  refine vBin ha hb ?_
  show R.grd (-(2 ^ 63) ≤ (n : Int) ∧ (n : Int) < 2 ^ 63 ∧ ([D.int 0]).length * (n : Int).toNat ≤ 16777216) _ = _
  rw [grd_ok ⟨by omega, by omega, by rw [Int.toNat_natCast]; show 1 * n ≤ 16777216; omega⟩, Int.toNat_natCast, flat_rep]
  unfold li
  rw [List.map_replicate]
theorem vAddL {ρ : Rho} {a b : Rho → R D} {x y : List Int} (ha : a ρ = .ok (li x)) (hb : b ρ = .ok (li y)) (hl : x.length + y.length ≤ 16777216) : mAddL a b ρ = .ok ((x ++ y).map D.int) := by
  unfold mAddL
  rw [ha, R.bind_ok, hb, R.bind_ok]
  show R.grd ((x.map D.int).length + (y.map D.int).length ≤ 16777216) _ = _
  rw [grd_ok (by rw [li_len, li_len]; exact hl), ← List.map_append]
theorem sub_nn {i j : Nat} (h : j ≤ i) : dSub (.int i) (.int j) = .ok (.int (i - j : Nat)) := by
  show R.ok (D.int ((i : Int) - j)) = _
  rw [show ((i : Int) - j) = ((i - j : Nat) : Int) by omega]
theorem e_lrest {p : Int} {a g : List Int} {m : Nat} (hp0 : 1 < p) (hp1 : p < 100) (ha : Rd p a) (hg : Rd p g) (hgl : g.length = m + 1) (hg1 : co g m = 1) (hal : a.length < 1000) (hm : m < 1000) :
    ∃ q r, f_l_rest [.int p, li a, li g] = .ok (li (r.take m)) ∧ Div p (a ++ List.replicate m 0) g m ((a ++ List.replicate m 0).length - m) q r := by
  obtain ⟨a', ea⟩ : ∃ a', a' = a ++ List.replicate m 0 := ⟨_, rfl⟩
  have la : a'.length = a.length + m := by rw [ea, List.length_append, List.length_replicate]
  have ha' : Rd p a' := fun c hc => by
    rw [ea] at hc
    rcases List.mem_append.mp hc with z | z
    · exact ha c z
    · rw [List.eq_of_mem_replicate z]; omega
  rw [← ea]
  have key : ∃ o, (∃ q r, o = .ret (li (r.take m)) ∧ Div p a' g m (a'.length - m) q r) ∧ f_l_rest [.int p, li a, li g] = endM o := by
    refine fun_go (.seq (.set (d := .int m) (vBin (vBi (v1 rfl) (len_li g)) rfl (sub1 hgl)) ⟨_, rfl, .seq (.own (ds := a'.map D.int) ?_ ⟨_, rfl, .seq
      (.for (fun i ρ => ∃ q r, ρ = [.sh (.int p), .sh (li a), .sh (li g), .sh (.int m), .ow (r.map D.int), .no, .no, .no] ∧ Div p a' g m i q r) (xs := rangeD ((a'.length : Int) - 1) (a'.length - m) (-1)) ?_ ?_ ?_ ?_)⟩)⟩))
    · rw [ea]
      exact vAddL rfl (vMulZ rfl rfl (by omega)) (by rw [List.length_replicate]; omega)
    · refine r3 ((a'.length : Int) - 1) ((m : Int) - 1) _ (vCons (vBin (vBi (v1 rfl) (len_li a')) rfl rfl) (vCons (vBin rfl rfl rfl) rfl)) ⟨by omega, by omega⟩ ⟨by omega, by omega⟩ (by omega)
    · exact ⟨_, _, rfl, .first (by omega) ha'⟩
    · rintro i x ρ hx ⟨q, r, rfl, dv⟩
      obtain ⟨rfl, hi⟩ := back_mem hx
      obtain ⟨at', hat⟩ : ∃ at', at' + 1 + i = a'.length - m := ⟨a'.length - m - 1 - i, by omega⟩
      rw [show ((a'.length : Int) - 1 - (i : Int)) = ((at' + m : Nat) : Int) by omega]
      refine ⟨_, rfl, ?_⟩
      have hlen : at' + m < r.length := by rw [dv.rl]; omega
      have tt := dv.rr.co (show 0 < p by omega) (at' + m)
      refine .seq (.set (d := .int (co r (at' + m))) (vBin rfl rfl (ix_li hlen)) ⟨_, rfl, ?_⟩)
      refine .seq (.for (fun j ρ => ∃ r1, ρ = [.sh (.int p), .sh (li a), .sh (li g), .sh (.int m), .ow (r1.map D.int), .sh (.int (at' + m : Nat)), .sh (.int (co r (at' + m))), .no] ∧ r1.length = r.length ∧ Rd p r1 ∧
          (∃ h1, ∀ x, ev r x = ev r1 x + x ^ at' * co r (at' + m) * ev (g.take j) x + p * ev h1 x) ∧ ∀ k, co r1 k = if at' ≤ k ∧ k < at' + j then (co r k - co r (at' + m) * co g (k - at')) % p else co r k) (xs := rangeD 0 (m + 1) 1) (r1 (m + 1) (v1 (vBin rfl rfl (add_nn m 1))) (by omega)) ?_ ?_ ?_)
      · exact ⟨r, rfl, rfl, dv.rr, ⟨[], fun x => by simp [ev]⟩, fun k => by rw [if_neg (by omega)]⟩
      · rintro j y ρ hy ⟨r1, rfl, l1, rd1, ⟨h1, e1⟩, c1⟩
        obtain ⟨rfl, hj⟩ := range_mem hy
        rw [show (0 : Int) + (j : Int) = (j : Int) by omega]
        obtain ⟨h2, a1, a2, a3, a4⟩ := e_inner hp0 hp1 dv.rr hg hgl hlen tt.1 tt.2 hj l1 rd1 e1 c1
        have hix : mBin dAdd (mBin dSub (mVarB 5) (mVarB 3)) (mVarB 7) [.sh (.int p), .sh (li a), .sh (li g), .sh (.int m), .ow (r1.map D.int), .sh (.int (at' + m : Nat)), .sh (.int (co r (at' + m))), .sh (.int j)] = .ok (.int (at' + j : Nat)) :=
          vBin (vBin rfl rfl (sub_nn (Nat.le_add_left _ _))) rfl (by rw [Nat.add_sub_cancel]; exact add_nn at' j)
        refine ⟨_, rfl, .seq (.store (v := .int ((co r1 (at' + j) - co r (at' + m) * co g j) % p)) (j := ((at' + j : Nat) : Int)) (n := at' + j) rfl ?_ hix (ixN_nat (by rw [li_len]; omega)) ⟨_, rfl, .no (.skip ⟨_, rfl, _, ?_, a1, a2, ⟨h2, a3⟩, a4⟩)⟩)⟩
        · exact vBin (vBi (v1 (vBin (vBin rfl hix (ix_li (by omega))) (vBin rfl (vBin rfl rfl (ix_li (by omega))) (mul_ii (.inl (sm_rd tt.1 tt.2 hp1)))) rfl)) rfl) rfl (mod_ii (by omega))
        · rw [map_set r1]
          rfl
      · rintro ρ ⟨r1, rfl, l1, rd1, ⟨h1, e1⟩, c1⟩
        rw [rangeD_len] at e1 c1
        rw [show g.take (m + 1) = g by rw [← hgl]; exact List.take_length] at e1
        exact ⟨_, rfl, .no (.no (.no (.skip ⟨_, rfl, _, _, rfl, dv.step hp0 hgl hg1 hat l1 rd1 ⟨h1, e1⟩ c1⟩)))⟩
    · rintro ρ ⟨q, r, rfl, dv⟩
      rw [rangeD_len] at dv
      refine ⟨_, rfl, .ret (d := li (r.take m)) ?_ ⟨q, r, rfl, dv⟩⟩
      show R.ok (D.lst (cutD (r.map D.int) none (some (m : Int)))) = _
      rw [cut_upto m (by rw [li_len, dv.rl]; omega), take_map]
      rfl
  obtain ⟨o, ⟨q, r, rfl, dv⟩, e⟩ := key
  exact ⟨q, r, e, dv⟩
theorem Dv.pad {p : Int} {g a : List Int} (m : Nat) : Dv p g (a ++ List.replicate m 0) ↔ Dv p g a := by
  have h : ∀ x, ev (a ++ List.replicate m 0) x = ev a x := fun x => by rw [ev_app, ev_zeros]; simp
  unfold Dv
  simp only [h]
/-- no monic one of at most half its degree goes into it -/
def Irr (p : Int) (f : List Int) : Prop := 2 ≤ f.length ∧ ∀ (e : Nat) (n : Int), 1 ≤ e → 2 * e ≤ f.length - 1 → 0 ≤ n → n < p ^ e → ¬ Dv p (num p e n) f
theorem pow_mono {p : Int} (hp : 1 < p) : ∀ {i j : Nat}, i ≤ j → p ^ i ≤ p ^ j := fun {i j} h => by
  obtain ⟨k, rfl⟩ := Nat.exists_eq_add_of_le h
  rw [Int.pow_add]
  have h1 : 0 < p ^ i := Int.pow_pos (by omega)
  have h2 : 0 < p ^ k := Int.pow_pos (by omega)
  have h3 : p ^ i * 1 ≤ p ^ i * p ^ k := Int.mul_le_mul_of_nonneg_left (by omega) (by omega)
  omega
theorem pow_nat {p : Int} (hp : 1 < p) (e : Nat) : ((p ^ e).toNat : Int) = p ^ e := by
  have h1 : 0 < p ^ e := Int.pow_pos (by omega)
  omega
theorem e_isprime {p : Int} {f : List Int} (hp0 : 1 < p) (hp1 : p < 100) (mf : Mo p f) (hl : f.length < 900) (hpe : p ^ (f.length - 1) < 1000000) : ∃ b, f_l_is_prime [.int p, li f] = .ok (.bl b) ∧ (b = true ↔ Irr p f) := by
  have lf := mf.len
  have key : ∃ o, (∃ b, o = .ret (.bl b) ∧ (b = true ↔ Irr p f)) ∧ f_l_is_prime [.int p, li f] = endM o := by
    refine fun_go (.seq (.set (d := .int (f.length - 1 : Nat)) (vBin (vBi (v1 rfl) (len_li f)) rfl (sub1 lf)) ⟨_, rfl, .seqr
      (.forR (fun i ρ => ρ = [.sh (.int p), .sh (li f), .sh (.int (f.length - 1 : Nat)), .no, .no] ∧ ∀ (e : Nat) (n : Int), 1 ≤ e → e < 1 + i → 0 ≤ n → n < p ^ e → ¬ Dv p (num p e n) f) (fun d => d = .bl false ∧ ¬ Irr p f) (xs := rangeD ((1 : Nat) : Int) ((f.length - 1) / 2 + 1 - 1) 1) ?_ ?_ ?_ ?_ ?_)⟩))
    · refine r2 1 ((f.length - 1) / 2 + 1) (v2 rfl (vBin (vBin rfl rfl (z := .int ((f.length - 1) / 2 : Nat)) ?_) rfl (add_nn _ 1))) (by omega) (by omega)
      show R.grd ((0 : Int) < 2 ∧ (2 : Int) < 2 ^ 200) _ = _
      rw [grd_ok ⟨by decide, by decide⟩]
      rfl
    · exact ⟨rfl, fun e n h1 h2 => absurd h2 (by omega)⟩
    · rintro i x ρ hx ⟨rfl, hno⟩
      obtain ⟨rfl, hi⟩ := range_mem hx
      rw [show (((1 : Nat) : Int) + (i : Int)) = ((1 + i : Nat) : Int) by omega]
      obtain ⟨e, ee⟩ : ∃ e, e = 1 + i := ⟨_, rfl⟩
      rw [← ee]
      have he : 2 * e ≤ f.length - 1 := by omega
      have hpw : p ^ e < 1000000 := Int.lt_of_le_of_lt (pow_mono hp0 (show e ≤ f.length - 1 by omega)) hpe
      have hpn := pow_nat hp0 e
      refine ⟨_, rfl, .seqr (.forR (fun j ρ => ρ = [.sh (.int p), .sh (li f), .sh (.int (f.length - 1 : Nat)), .sh (.int e), .no] ∧ ∀ n : Int, 0 ≤ n → n < j → ¬ Dv p (num p e n) f) (fun d => d = .bl false ∧ ¬ Irr p f) (xs := rangeD 0 (p ^ e).toNat 1) (r1 (p ^ e).toNat (v1 (vCall (v2 rfl rfl) rfl (by rw [hpn]; exact e_lpower hp0 hp1 (by omega)))) (by omega)) ?_ ?_ ?_ ?_)⟩
      · exact ⟨rfl, fun n h1 h2 => absurd h2 (by omega)⟩
      · rintro j y ρ hy ⟨rfl, hnj⟩
        obtain ⟨rfl, hj⟩ := range_mem hy
        rw [show (0 : Int) + (j : Int) = (j : Int) by omega]
        have mg := num_mo hp0 e (j : Int)
        have hgl := num_len p e (j : Int)
        have hg1 : co (num p e (j : Int)) e = 1 := by have := mg.top; rw [hgl, Nat.add_sub_cancel] at this; exact this
        obtain ⟨q, r, er, dv⟩ := e_lrest hp0 hp1 mf.rd mg.rd hgl hg1 (by omega) (by omega)
        have iff := dv.iff hp0 mg hgl
        rw [Dv.pad] at iff
        have hlr : (r.take e).length = e := by rw [List.length_take, dv.rl, List.length_append, List.length_replicate]; omega
        have iff2 : r.take e = List.replicate e 0 ↔ Dv p (num p e (j : Int)) f := by
          rw [← iff]
          constructor
          · intro h c hc
            rw [h] at hc
            exact List.eq_of_mem_replicate hc
          · intro h
            rw [List.eq_replicate_iff]
            exact ⟨hlr, h⟩
        have ht : mTb (mBin dEq (mCall 3 f_l_rest (mCons (mVar 0) (mCons (mVar 1) (mCons (mCall 3 f_l_monic (mCons (mVar 0) (mCons (mVar 3) (mCons (mVar 4) mNil)))) mNil)))) (mBin dMul (mFrz (mLst (mCons (mC (.int 0)) mNil))) (mVarB 3))) [.sh (.int p), .sh (li f), .sh (.int (f.length - 1 : Nat)), .sh (.int e), .sh (.int j)] = .ok (decide (r.take e = List.replicate e 0)) :=
          vTb (vBin (vCall (vCons rfl (vCons rfl (v1 (vCall (vCons rfl (vCons rfl (v1 rfl))) rfl (e_monic hp0 hp1 (by omega) (j : Int)))))) rfl er) (vMulZ rfl rfl (by omega)) (eq_ll _ _))
        refine ⟨_, rfl, .seqr ?_⟩
        by_cases hd : r.take e = List.replicate e 0
        · rw [decide_eq_true hd] at ht
          refine .ifT ht (.ret rfl (.inr ⟨_, rfl, .inr ⟨_, rfl, rfl, fun ir => ?_⟩⟩))
          exact ir.2 e j (by omega) he (by omega) (by omega) (iff2.mp hd)
        · rw [decide_eq_false hd] at ht
          refine .ifF ht (.skip (.inl ⟨_, rfl, .no (.skip (.inl ⟨_, rfl, rfl, fun n h1 h2 => ?_⟩))⟩))
          by_cases hn : n = j
          · rw [hn]; exact fun z => hd (iff2.mpr z)
          · exact hnj n h1 (by omega)
      · rintro ρ ⟨rfl, hnj⟩
        rw [rangeD_len, hpn] at hnj
        refine .inl ⟨_, rfl, .no (.no (.skip (.inl ⟨_, rfl, rfl, fun e' n h1 h2 h3 h4 => ?_⟩)))⟩
        by_cases hn : e' = e
        · subst hn; exact hnj n h3 h4
        · exact hno e' n h1 (by omega) h3 h4
      · rintro d ⟨rfl, ni⟩
        exact .inr ⟨_, rfl, .inr ⟨_, rfl, rfl, ni⟩⟩
    · rintro ρ ⟨rfl, hno⟩
      rw [rangeD_len] at hno
      refine .inl ⟨_, rfl, .ret rfl ⟨_, rfl, ?_⟩⟩
      rw [decide_eq_true_iff]
      constructor
      · intro h
        exact ⟨by omega, fun e n h1 h2 h3 h4 => hno e n h1 (by omega) h3 h4⟩
      · rintro ⟨h, _⟩
        omega
    · rintro d ⟨rfl, ni⟩
      exact .inr ⟨_, rfl, _, rfl, ⟨fun z => absurd z Bool.false_ne_true, fun z => absurd z ni⟩⟩
  obtain ⟨o, ⟨b, rfl, hb⟩, e⟩ := key
  exact ⟨b, e, hb⟩
end K05
end Y
/-! # P8 -/
set_option Elab.async false
set_option linter.all false
set_option maxRecDepth 100000
set_option maxHeartbeats 2000000
namespace Y
open Po PySem
namespace K05
def pm : List (List Int) → List Int
  | [] => [1]
  | f :: fs => mul f (pm fs)
theorem pm_app : ∀ (fs : List (List Int)) (f : List Int) (x : Int), ev (pm (fs ++ [f])) x = ev (pm fs) x * ev f x
  | [], f, x => by simp [pm, ev_mul, ev]
  | g :: fs, f, x => by
    rw [List.cons_append, pm, ev_mul, pm_app fs f x, pm, ev_mul]
    grind
/-- shorter, or as long and no greater -/
def Le (p : Int) (f g : List Int) : Prop := f.length < g.length ∨ f.length = g.length ∧ ev f p ≤ ev g p
def degs (fs : List (List Int)) : Nat := (fs.map fun f => f.length - 1).sum
theorem degs_app (fs : List (List Int)) (f : List Int) : degs (fs ++ [f]) = degs fs + (f.length - 1) := by simp [degs]
/-- what has been found and what is left, before the k-th one of degree d -/
structure FS (p : Int) (w : List Int) (fs : List (List Int)) (r : List Int) (d : Nat) (k : Int) : Prop where
  mo : Mo p r
  irr : ∀ f ∈ fs, Irr p f
  nums : ∀ f ∈ fs, ∃ e n, f = num p e n ∧ 1 ≤ e ∧ 0 ≤ n ∧ n < p ^ e ∧ (e < d ∨ e = d ∧ n ≤ k)
  srt : fs.Pairwise (Le p)
  no : ∀ (e : Nat) (n : Int), 1 ≤ e → 0 ≤ n → n < p ^ e → (e < d ∨ e = d ∧ n < k) → ¬ Dv p (num p e n) r
  deg : degs fs + (r.length - 1) = w.length - 1
  pr : ∃ h, ∀ x, ev w x = ev (pm fs) x * ev r x + p * ev h x
theorem FS.first {p : Int} {w : List Int} (m : Mo p w) : FS p w [] w 1 0 where
  mo := m
  irr := fun f h => absurd h List.not_mem_nil
  nums := fun f h => absurd h List.not_mem_nil
  srt := .nil
  no := fun e n h1 h2 h3 h4 => by omega
  deg := by simp [degs]
  pr := ⟨[], fun x => by simp [pm, ev]⟩
theorem FS.skip {p : Int} {w r : List Int} {fs : List (List Int)} {d : Nat} {k : Int} (s : FS p w fs r d k) (h : ¬ Dv p (num p d k) r) : FS p w fs r d (k + 1) :=
  { s with
    nums := fun f hf => by
      obtain ⟨e, n, h1, h2, h3, h4, h5⟩ := s.nums f hf
      exact ⟨e, n, h1, h2, h3, h4, by omega⟩
    no := fun e n h1 h2 h3 h4 => by
      by_cases hn : e = d ∧ n = k
      · rw [hn.1, hn.2]; exact h
      · exact s.no e n h1 h2 h3 (by omega) }
theorem FS.up {p : Int} {w r : List Int} {fs : List (List Int)} {d : Nat} (s : FS p w fs r d (p ^ d)) : FS p w fs r (d + 1) 0 :=
  { s with
    nums := fun f hf => by
      obtain ⟨e, n, h1, h2, h3, h4, h5⟩ := s.nums f hf
      exact ⟨e, n, h1, h2, h3, h4, by omega⟩
    no := fun e n h1 h2 h3 h4 => by
      refine s.no e n h1 h2 h3 ?_
      by_cases he : e < d
      · exact .inl he
      · have : e = d := by omega
        subst this
        exact .inr ⟨rfl, h3⟩ }
theorem le_num {p : Int} (hp : 1 < p) {e d : Nat} {n k : Int} (h0 : 0 ≤ n) (h1 : n < p ^ e) (k0 : 0 ≤ k) (k1 : k < p ^ d) (h : e < d ∨ e = d ∧ n ≤ k) : Le p (num p e n) (num p d k) := by
  unfold Le
  rw [num_len, num_len, num_ev hp h0 h1, num_ev hp k0 k1]
  rcases h with h | ⟨h, h2⟩
  · exact .inl (by omega)
  · subst h; exact .inr ⟨rfl, by omega⟩
theorem FS.take {p : Int} (hp : 1 < p) {w r q : List Int} {fs : List (List Int)} {d : Nat} {k : Int} (s : FS p w fs r d k) (hd : 1 ≤ d) (k0 : 0 ≤ k) (k1 : k < p ^ d) (dv : Dv p (num p d k) r) (mq : Mo p q) (lq : q.length = r.length - d) (hl : d + 1 ≤ r.length)
    (e : ∃ h, ∀ x, ev r x = ev q x * ev (num p d k) x + p * ev h x) : FS p w (fs ++ [num p d k]) q d k where
  mo := mq
  irr := fun f hf => by
    rcases List.mem_append.mp hf with z | z
    · exact s.irr f z
    · rw [List.mem_singleton.mp z]
      refine ⟨by rw [num_len]; omega, fun e n h1 h2 h3 h4 h5 => ?_⟩
      rw [num_len] at h2
      exact s.no e n h1 h3 h4 (by omega) (h5.trans dv)
  nums := fun f hf => by
    rcases List.mem_append.mp hf with z | z
    · exact s.nums f z
    · rw [List.mem_singleton.mp z]
      exact ⟨d, k, rfl, hd, k0, k1, .inr ⟨rfl, Int.le_refl _⟩⟩
  srt := by
    rw [List.pairwise_append]
    refine ⟨s.srt, List.pairwise_singleton _ _, fun a ha b hb => ?_⟩
    obtain ⟨e, n, rfl, h1, h2, h3, h4⟩ := s.nums a ha
    rw [List.mem_singleton.mp hb]
    exact le_num hp h2 h3 k0 k1 h4
  no := fun e' n h1 h2 h3 h4 h5 => by
    obtain ⟨h, eh⟩ := e
    refine s.no e' n h1 h2 h3 h4 (h5.trans ⟨num p d k, h, fun x => ?_⟩)
    rw [eh x]
    grind
  deg := by
    have := s.deg
    rw [degs_app, num_len]
    omega
  pr := by
    obtain ⟨h0, e0⟩ := s.pr
    obtain ⟨h1, e1⟩ := e
    refine ⟨add (mul (pm fs) h1) h0, fun x => ?_⟩
    rw [e0 x, pm_app, ev_add, ev_mul, e1 x]
    grind
/-- what comes out at the end -/
structure Fin (p : Int) (w : List Int) (L : List (List Int)) : Prop where
  mo : ∀ f ∈ L, Mo p f
  irr : ∀ f ∈ L, Irr p f
  srt : L.Pairwise (Le p)
  deg : degs L = w.length - 1
  pr : ∃ h, ∀ x, ev w x = ev (pm L) x + p * ev h x
theorem FS.end {p : Int} (hp : 1 < p) {w r : List Int} {fs : List (List Int)} {d : Nat} (s : FS p w fs r d 0) (h : r.length ≤ 2 * d) : Fin p w (if r.length > 1 then fs ++ [r] else fs) := by
  have mf : ∀ f ∈ fs, Mo p f := fun f hf => by
    obtain ⟨e, n, rfl, _⟩ := s.nums f hf
    exact num_mo hp e n
  obtain ⟨h0, e0⟩ := s.pr
  by_cases hl : r.length > 1
  · rw [if_pos hl]
    obtain ⟨n, n0, n1, en⟩ := mo_num hp s.mo
    have hge : d ≤ r.length - 1 := by
      apply Classical.byContradiction
      intro hlt
      refine s.no (r.length - 1) n (by omega) n0 n1 (.inl (by omega)) ?_
      rw [← en]
      exact Dv.refl p r
    refine ⟨fun f hf => ?_, fun f hf => ?_, ?_, ?_, h0, fun x => ?_⟩
    · rcases List.mem_append.mp hf with z | z
      · exact mf f z
      · rw [List.mem_singleton.mp z]; exact s.mo
    · rcases List.mem_append.mp hf with z | z
      · exact s.irr f z
      · rw [List.mem_singleton.mp z]
        exact ⟨hl, fun e n h1 h2 h3 h4 => s.no e n h1 h3 h4 (.inl (by omega))⟩
    · rw [List.pairwise_append]
      refine ⟨s.srt, List.pairwise_singleton _ _, fun a ha b hb => ?_⟩
      obtain ⟨e, m, rfl, h1, h2, h3, h4⟩ := s.nums a ha
      rw [List.mem_singleton.mp hb, en]
      exact le_num hp h2 h3 n0 n1 (by omega)
    · rw [degs_app]; exact s.deg
    · rw [e0 x, pm_app]
  · rw [if_neg hl]
    have l1 := s.mo.len
    have er : ∀ x, ev r x = 1 := fun x => by
      obtain ⟨c, rfl⟩ : ∃ c, r = [c] := List.length_eq_one_iff.mp (by omega)
      have : c = 1 := s.mo.top
      rw [this]
      simp [ev]
    exact ⟨mf, s.irr, s.srt, by have := s.deg; omega, h0, fun x => by rw [e0 x, er x]; grind⟩
theorem sum_ge : ∀ {fs : List (List Int)} {a : Nat}, (∀ f ∈ fs, a ≤ f.length - 1) → fs ≠ [] → a ≤ degs fs
  | [], a, _, h => absurd rfl h
  | f :: fs, a, h, _ => by
    have := h f List.mem_cons_self
    unfold degs
    rw [List.map_cons, List.sum_cons]
    omega
/-- one alone just where it is prime -/
theorem Fin.alone {p : Int} (hp : 1 < p) {w : List Int} {L : List (List Int)} (mw : Mo p w) (hw : 2 ≤ w.length) (f : Fin p w L) : L = [w] ↔ Irr p w := by
  constructor
  · intro h
    exact f.irr w (by rw [h]; exact List.mem_singleton.mpr rfl)
  · intro ir
    obtain ⟨h, e⟩ := f.pr
    match L, f, e with
    | [], f, e =>
      have := f.deg
      simp [degs] at this
      omega
    | [a], f, e =>
      have : w = a := mw.same hp (f.mo a (List.mem_singleton.mpr rfl)) (h := h) fun x => by
        rw [e x]
        simp [pm, ev_mul, ev]
      rw [this]
    | a :: b :: L, f, e =>
      exfalso
      obtain ⟨n, n0, n1, en⟩ := mo_num hp (f.mo a List.mem_cons_self)
      have la := (f.irr a List.mem_cons_self).1
      have hs : a.length - 1 ≤ degs (b :: L) := sum_ge (fun g hg => by
        have := (List.pairwise_cons.mp f.srt).1 g hg
        unfold Le at this
        omega) (by simp)
      have hd := f.deg
      unfold degs at hd hs
      rw [List.map_cons, List.sum_cons] at hd
      refine ir.2 (a.length - 1) n (by omega) (by omega) n0 n1 ?_
      rw [← en]
      exact ⟨pm (b :: L), h, fun x => by rw [e x, pm, ev_mul]; grind⟩
end K05
end Y
/-! # P9 -/
set_option Elab.async false
set_option linter.all false
set_option maxRecDepth 100000
set_option maxHeartbeats 2000000
namespace Y
open Po PySem
namespace K05
theorem iadd1 (d : Nat) : dIAdd (.int d) (.int 1) = .ok (.int (d + 1 : Nat)) := by
  show R.ok (D.int ((d : Int) + 1)) = _
  rw [show ((d : Int) + 1) = ((d + 1 : Nat) : Int) by omega]
theorem lt_nn (i j : Nat) : dLt (.int i) (.int j) = .ok (.bl (decide (i < j))) := by
  show R.ok (D.bl (decide ((i : Int) < j))) = _
  congr 2
  exact decide_eq_decide.mpr (by omega)
theorem ge_nn (i j : Nat) : dGe (.int i) (.int j) = .ok (.bl (decide (j ≤ i))) := by
  show R.ok (D.bl (decide ((j : Int) ≤ i))) = _
  congr 2
  exact decide_eq_decide.mpr (by omega)
theorem gt_nn (i j : Nat) : dGt (.int i) (.int j) = .ok (.bl (decide (j < i))) := by
  show R.ok (D.bl (decide ((j : Int) < i))) = _
  congr 2
  exact decide_eq_decide.mpr (by omega)
theorem and_dec (a b : Prop) [Decidable a] [Decidable b] {ρ : Rho} {s t : Rho → R Bool} (h : s ρ = .ok (decide a)) (h2 : t ρ = .ok (decide b)) : mAndT s t ρ = .ok (decide (a ∧ b)) := by
  by_cases ha : a
  · rw [decide_eq_true ha] at h
    rw [vAnd h h2]
    congr 1
    exact decide_eq_decide.mpr ⟨fun z => ⟨ha, z⟩, fun z => z.2⟩
  · rw [decide_eq_false ha] at h
    rw [vAndF h, decide_eq_false fun z => ha z.1]
theorem add_ll {a b : List D} (h : a.length + b.length ≤ 16777216) : dAdd (.lst a) (.lst b) = .ok (.lst (a ++ b)) := grd_ok h
theorem len_degs {p : Int} : ∀ {fs : List (List Int)}, (∀ f ∈ fs, Irr p f) → fs.length ≤ degs fs
  | [], _ => Nat.zero_le _
  | f :: fs, h => by
    have := len_degs fun g hg => h g (List.mem_cons_of_mem _ hg)
    have := (h f List.mem_cons_self).1
    unfold degs at *
    rw [List.map_cons, List.sum_cons, List.length_cons]
    omega
def tis (L : List (List Int)) : D := .tup (L.map ti)
theorem e_factors {p : Int} {w : List Int} (hp0 : 1 < p) (hp1 : p < 100) (mw : Mo p w) (hl : w.length < 900) (hpe : p ^ (w.length - 1) < 1000000) : ∃ L, f_polynomial_factors [.int p, ti w] = .ok (tis L) ∧ Fin p w L := by
  have lw := mw.len
  have key : ∃ o, (∃ L, o = .ret (tis L) ∧ Fin p w L) ∧ f_polynomial_factors [.int p, ti w] = endM o := by
    refine fun_go (.seq (.par3 (x := .ow []) (y := .sh (ti w)) (z := .sh (.int 1)) rfl rfl rfl ⟨_, rfl, .seq
      (.while (fun n ρ => ∃ fs r d, n + d = w.length + 1 ∧ 1 ≤ d ∧ r.length ≤ w.length ∧ ρ = [.sh (.int p), .sh (ti w), .ow (fs.map ti), .sh (ti r), .sh (.int (d : Nat)), .no, .no, .no, .no] ∧ FS p w fs r d 0) w.length ?_ ?_ ?_)⟩))
    · exact ⟨[], w, 1, rfl, Nat.le_refl _, Nat.le_refl _, rfl, .first mw⟩
    · rintro n ρ ⟨fs, r, d, hn, hd, hrl, rfl, s⟩
      have ht : mTb (mBin dLt (mBin dMul (mC (.int 2)) (mVarB 4)) (mBi dLen (mCons (mVarB 3) mNil))) [.sh (.int p), .sh (ti w), .ow (fs.map ti), .sh (ti r), .sh (.int (d : Nat)), .no, .no, .no, .no] = .ok (decide (2 * d < r.length)) :=
        vTb (vBin (vBin rfl rfl (z := .int (2 * d : Nat)) (by
          rw [mul_ii (.inl (by decide))]
          congr 2)) (vBi (v1 rfl) (len_ti r)) (lt_nn _ _))
      refine ⟨_, ht, fun hc => ?_⟩
      have hc := of_decide_eq_true hc
      have hpw : p ^ d < 1000000 := Int.lt_of_le_of_lt (pow_mono hp0 (show d ≤ w.length - 1 by omega)) hpe
      have hpn := pow_nat hp0 d
      refine .seq (.for (fun k ρ => ∃ fs r, r.length ≤ w.length ∧ ρ = [.sh (.int p), .sh (ti w), .ow (fs.map ti), .sh (ti r), .sh (.int (d : Nat)), .no, .no, .no, .no] ∧ FS p w fs r d k) (xs := rangeD 0 (p ^ d).toNat 1) (r1 (p ^ d).toNat (v1 (vCall (v2 rfl rfl) rfl (by rw [hpn]; exact e_power hp0 hp1 (by omega)))) (by omega)) ?_ ?_ ?_)
      · exact ⟨fs, r, hrl, rfl, s⟩
      · rintro k x ρ hx ⟨fs, r, hrl, rfl, s⟩
        obtain ⟨rfl, hk⟩ := range_mem hx
        rw [show (0 : Int) + (k : Int) = (k : Int) by omega]
        have mg := num_mo hp0 d (k : Int)
        have hgl := num_len p d (k : Int)
        have hg1 : co (num p d (k : Int)) d = 1 := by have := mg.top; rw [hgl, Nat.add_sub_cancel] at this; exact this
        have hk1 : (k : Int) < p ^ d := by omega
        refine ⟨_, rfl, .seq (.set (d := ti (num p d k)) (vCall (vCons rfl (vCons rfl (v1 rfl))) rfl (e_num hp0 hp1 (by omega) (k : Int))) ⟨_, rfl, ?_⟩)⟩
        obtain ⟨q, l, er, dv⟩ := e_rest hp0 hp1 s.mo.rd mg.rd hgl hg1 (by omega : r.length < 1000) (by omega : d < 1000)
        refine .seq (.asg (d := .tup [ti (trim q), ti (trim l)]) (vCall (vCons rfl (vCons rfl (v1 rfl))) rfl er) rfl ⟨_, rfl, ?_⟩)
        refine .seq (.while (fun n ρ => ∃ fs r q l, n = r.length ∧ r.length ≤ w.length ∧ ρ = [.sh (.int p), .sh (ti w), .ow (fs.map ti), .sh (ti r), .sh (.int (d : Nat)), .sh (.int k), .sh (ti (num p d k)), .sh (ti (trim q)), .sh (ti (trim l))] ∧ FS p w fs r d k ∧ Div p r (num p d k) d (r.length - d) q l) r.length ⟨fs, r, q, l, rfl, hrl, rfl, s, dv⟩ ?_ ?_)
        · rintro n ρ ⟨fs, r, q, l, rfl, hrl, rfl, s, dv⟩
          refine ⟨_, and_dec (trim l = []) (d + 1 ≤ r.length) (vTb (vBin rfl rfl (eq_tt (trim l) []))) (vTb (vBin (vBi (v1 rfl) (len_ti r)) (vBi (v1 rfl) (by rw [len_ti, hgl])) (ge_nn _ _))), fun hc => ?_⟩
          have hc := of_decide_eq_true hc
          have dd := (dv.left hp0 mg hgl).mp hc.1
          obtain ⟨g1, g2, g3, g4, g5⟩ := dv.quot hp0 s.mo mg hgl dd
          have s2 := s.take hp0 hd (by omega) hk1 dd g3 g4 g1 g5
          have hfs : fs.length ≤ w.length := by
            have h1 := s.deg
            have := len_degs s.irr
            omega
          obtain ⟨q2, l2, er2, dv2⟩ := e_rest hp0 hp1 g3.rd mg.rd hgl hg1 (by omega : q.length < 1000) (by omega : d < 1000)
          refine .seq (.app rfl rfl (by rw [List.length_map]; omega) ⟨_, rfl, .seq (.set rfl ⟨_, rfl, .asg (d := .tup [ti (trim q2), ti (trim l2)]) (vCall (vCons rfl (vCons rfl (v1 rfl))) rfl ?_) rfl ⟨_, q.length, rfl, ?_, _, q, q2, l2, rfl, ?_, ?_, s2, dv2⟩⟩)⟩)
          · rw [g2]; exact er2
          · omega
          · omega
          · rw [List.map_append, g2]
            rfl
        · rintro ρ n ⟨fs, r, q, l, rfl, hrl, rfl, s, dv⟩ hf
          rw [and_dec (trim l = []) (d + 1 ≤ r.length) (vTb (vBin rfl rfl (eq_tt (trim l) []))) (vTb (vBin (vBi (v1 rfl) (len_ti r)) (vBi (v1 rfl) (by rw [len_ti, hgl])) (ge_nn _ _)))] at hf
          have hf := of_decide_eq_false (R.ok.inj hf)
          refine ⟨_, rfl, .no (.no (.no (.no (.skip ⟨_, rfl, fs, r, hrl, rfl, s.skip fun dd => hf ⟨(dv.left hp0 mg hgl).mpr dd, (dv.quot hp0 s.mo mg hgl dd).1⟩⟩))))⟩
      · rintro ρ ⟨fs, r, hrl, rfl, s⟩
        rw [rangeD_len, hpn] at s
        refine ⟨_, rfl, .seq (.aug rfl rfl (iadd1 d) ⟨_, rfl, .no (.no (.no (.no (.skip ⟨_, n - 1, rfl, by omega, fs, r, d + 1, by omega, by omega, hrl, rfl, s.up⟩))))⟩)⟩
    · rintro ρ n ⟨fs, r, d, hn, hd, hrl, rfl, s⟩ hf
      have ht : mTb (mBin dLt (mBin dMul (mC (.int 2)) (mVarB 4)) (mBi dLen (mCons (mVarB 3) mNil))) [.sh (.int p), .sh (ti w), .ow (fs.map ti), .sh (ti r), .sh (.int (d : Nat)), .no, .no, .no, .no] = .ok (decide (2 * d < r.length)) :=
        vTb (vBin (vBin rfl rfl (z := .int (2 * d : Nat)) (by
          rw [mul_ii (.inl (by decide))]
          congr 2)) (vBi (v1 rfl) (len_ti r)) (lt_nn _ _))
      rw [ht] at hf
      have hf := of_decide_eq_false (R.ok.inj hf)
      have fin := s.end hp0 (by omega)
      have htt : mTb (mBin dGt (mBi dLen (mCons (mVarB 3) mNil)) (mC (.int 1))) [.sh (.int p), .sh (ti w), .ow (fs.map ti), .sh (ti r), .sh (.int (d : Nat)), .no, .no, .no, .no] = .ok (decide (1 < r.length)) :=
        vTb (vBin (vBi (v1 rfl) (len_ti r)) rfl (gt_nn r.length 1))
      by_cases h1 : 1 < r.length
      · rw [if_pos h1] at fin
        rw [decide_eq_true h1] at htt
        have hfs := len_degs s.irr
        have hdg := s.deg
        exact ⟨_, rfl, .ret (d := .tup (fs.map ti ++ [ti r])) (vIfT htt (vTupL (vBin rfl (vFrz (vLst (v1 rfl) (by show 1 ≤ 16777216; decide))) (add_ll (by rw [List.length_map]; show fs.length + 1 ≤ _; omega))))) ⟨fs ++ [r], by unfold tis; rw [List.map_append]; rfl, fin⟩⟩
      · rw [if_neg h1] at fin
        rw [decide_eq_false h1] at htt
        exact ⟨_, rfl, .ret (d := tis fs) (vIfF htt (vTupL rfl)) ⟨_, rfl, fin⟩⟩
  obtain ⟨o, ⟨L, rfl, f⟩, e⟩ := key
  exact ⟨L, e, f⟩
end K05
end Y
/-! # P10 -/
set_option Elab.async false
set_option linter.all false
set_option maxRecDepth 100000
set_option maxHeartbeats 2000000
namespace Y
open Po PySem
theorem sk_app (a b : Str) : PyData.strOk (a ++ b) = (PyData.strOk a && PyData.strOk b) := by
  show PyData.strOk (⟨a.cps ++ b.cps⟩ : Str) = _
  unfold PyData.strOk
  rw [Array.all_append]
theorem sl_app (a b : Str) : (a ++ b : Str).length = a.length + b.length := strLen_append a b
theorem shown_int {i : Int} (h0 : 0 ≤ i) (h1 : i < 100) : (PyData.int i).shown.length ≤ 2 ∧ PyData.strOk (PyData.int i).shown = true := by
  have h : ∀ n : Nat, n < 100 → (PyData.int (n : Int)).shown.length ≤ 2 ∧ PyData.strOk (PyData.int (n : Int)).shown = true := by decide +kernel
  have := h i.toNat (by omega)
  rw [Int.toNat_of_nonneg h0] at this
  exact this
/-- texts of at most k signs each -/
def Short (k : Nat) (ts : List Str) : Prop := ∀ t ∈ ts, t.length ≤ k ∧ PyData.strOk t = true
theorem piled_le {k : Nat} : ∀ {ts : List Str}, Short k ts → piled ts ≤ (k + 2) * ts.length
  | [], _ => by rw [piled_nil]; exact Nat.zero_le _
  | t :: ts, h => by
    have h1 := (h t List.mem_cons_self).1
    have h2 := piled_le (ts := ts) fun u hu => h u (List.mem_cons_of_mem _ hu)
    rw [piled_cons, List.length_cons, Nat.mul_succ]
    omega
theorem join_ok : ∀ {ts : List Str}, (∀ t ∈ ts, PyData.strOk t = true) → PyData.strOk (Str.join ", " ts) = true
  | [], _ => by decide +kernel
  | [x], h => h x List.mem_cons_self
  | x :: y :: r, h => by
    show PyData.strOk (x ++ ", " ++ Str.join ", " (y :: r)) = true
    have e : PyData.strOk (", " : Str) = true := by decide +kernel
    rw [sk_app, sk_app, h x List.mem_cons_self, e, join_ok fun t ht => h t (List.mem_cons_of_mem _ ht)]
    rfl
theorem tuple_short {k : Nat} {ts : List Str} (h : Short k ts) : (tupleText ts).length ≤ 3 + (k + 2) * ts.length ∧ PyData.strOk (tupleText ts) = true := by
  have hp := piled_le h
  have hj : (Str.join ", " ts).length ≤ piled ts := by
    by_cases e : ts = []
    · subst e
      decide +kernel
    · have := join_length_add ts e
      omega
  unfold tupleText
  constructor
  · rw [sl_app, sl_app]
    have h1 : (("(" : String) : Str).length = 1 := rfl
    have h2 : ((if ts.length == 1 then ",)" else ")" : String) : Str).length ≤ 2 := by
      split
      · exact Nat.le_of_eq rfl
      · exact Nat.le_of_lt (by decide +kernel)
    omega
  · rw [sk_app, sk_app, join_ok fun t ht => (h t ht).2]
    have h1 : PyData.strOk (("(" : String) : Str) = true := by decide +kernel
    have h2 : PyData.strOk ((if ts.length == 1 then ",)" else ")" : String) : Str) = true := by
      split <;> decide +kernel
    rw [h1, h2]
    rfl
theorem shownAll_map (ds : List PyData) : PyData.shownAll ds = ds.map PyData.shown := by
  induction ds with
  | nil => rfl
  | cons d ds ih => rw [PyData.shownAll, ih]; rfl
theorem showAll_all (ds : List PyData) : PyData.showableAll ds = ds.all PyData.showable := by
  induction ds with
  | nil => rfl
  | cons d ds ih => rw [PyData.showableAll, ih]; rfl
theorem log_small {i : Int} (h0 : 0 ≤ i) (h1 : i < 100) : i.natAbs.log2 < 1920 := by
  by_cases h : i = 0
  · subst h; decide
  · have h2 : i.natAbs < 2 ^ 7 := by omega
    have : i.natAbs.log2 < 7 := (Nat.log2_lt (by omega)).mpr h2
    omega
theorem ti_show {l : List Int} (h : Rd 100 l) : (ti l).py.showable = true ∧ (ti l).py.shown.length ≤ 3 + 4 * l.length ∧ PyData.strOk (ti l).py.shown = true ∧ (ti l).py.depth = 1 ∧ (ti l).plain = true := by
  obtain ⟨h1, h2⟩ := py_ints l
  obtain ⟨h3, h4⟩ := lay_ints l
  have e : (ti l).py = .tuple (l.map PyData.int) := by unfold ti D.py; rw [h1]
  rw [e]
  have sh : Short 2 (PyData.shownAll (l.map PyData.int)) := fun t ht => by
    rw [shownAll_map, List.map_map] at ht
    obtain ⟨i, hi, rfl⟩ := List.mem_map.mp ht
    exact shown_int (h i hi).1 (h i hi).2
  have sl : (PyData.shownAll (l.map PyData.int)).length = l.length := by rw [shownAll_map, List.length_map, List.length_map]
  obtain ⟨t1, t2⟩ := tuple_short sh
  rw [sl] at t1
  refine ⟨?_, ?_, ?_, ?_, ?_⟩
  · rw [PyData.showable, showAll_all, List.all_eq_true]
    intro d hd
    obtain ⟨i, hi, rfl⟩ := List.mem_map.mp hd
    rw [PyData.showable]
    exact decide_eq_true (log_small (h i hi).1 (h i hi).2)
  · rw [PyData.shown]; exact t1
  · rw [PyData.shown]; exact t2
  · rw [PyData.depth, h4]
  · unfold ti D.plain; exact h2
namespace K05
theorem py_rows : ∀ L : List (List Int), D.pyL (L.map ti) = L.map (fun ns => .tuple (ns.map PyData.int)) ∧ D.plainL (L.map ti) = true
  | [] => ⟨by simp [D.pyL], by simp [D.plainL]⟩
  | l :: L => by
    obtain ⟨h1, h2⟩ := py_rows L
    obtain ⟨h3, h4⟩ := py_ints l
    exact ⟨by simp [D.pyL, ti, D.py, h1, h3], by simp [D.plainL, ti, D.plain, h2, h4]⟩
theorem tis_show {L : List (List Int)} {k : Nat} (h : ∀ l ∈ L, Rd 100 l ∧ l.length ≤ k) : (tis L).py.showable = true ∧ (tis L).py.shown.length ≤ 3 + (5 + 4 * k) * L.length ∧ PyData.strOk (tis L).py.shown = true ∧ (tis L).py.depth ≤ 2 ∧ (tis L).plain = true := by
  obtain ⟨h1, h2⟩ := py_rows L
  obtain ⟨h3, h4⟩ := lay_rows L
  have e : (tis L).py = .tuple (L.map (fun ns => .tuple (ns.map PyData.int))) := by unfold tis D.py; rw [h1]
  rw [e]
  have one : ∀ l ∈ L, (PyData.tuple (l.map PyData.int)) = (ti l).py := fun l _ => by
    obtain ⟨a, _⟩ := py_ints l
    unfold ti D.py; rw [a]
  have sh : Short (3 + 4 * k) (PyData.shownAll (L.map (fun ns => .tuple (ns.map PyData.int)))) := fun t ht => by
    rw [shownAll_map, List.map_map] at ht
    obtain ⟨l, hl, rfl⟩ := List.mem_map.mp ht
    obtain ⟨_, g2, g3, _, _⟩ := ti_show (h l hl).1
    show (PyData.tuple (l.map PyData.int)).shown.length ≤ _ ∧ PyData.strOk (PyData.tuple (l.map PyData.int)).shown = true
    rw [one l hl]
    have := (h l hl).2
    exact ⟨by omega, g3⟩
  have sl : (PyData.shownAll (L.map (fun ns => .tuple (ns.map PyData.int)))).length = L.length := by rw [shownAll_map, List.length_map, List.length_map]
  obtain ⟨t1, t2⟩ := tuple_short sh
  rw [sl] at t1
  refine ⟨?_, ?_, ?_, ?_, ?_⟩
  · rw [PyData.showable, showAll_all, List.all_eq_true]
    intro d hd
    obtain ⟨l, hl, rfl⟩ := List.mem_map.mp hd
    show (PyData.tuple (l.map PyData.int)).showable = true
    rw [one l hl]
    exact (ti_show (h l hl).1).1
  · rw [PyData.shown, show 5 + 4 * k = 3 + 4 * k + 2 by omega]; exact t1
  · rw [PyData.shown]; exact t2
  · rw [PyData.depth]; omega
  · unfold tis D.plain; exact h2
theorem repr_ti {l : List Int} (h : Rd 100 l) (hl : l.length ≤ 1000) : dRepr [ti l] = .ok (.str (ti l).py.shown) := by
  obtain ⟨h1, h2, h3, h4, h5⟩ := ti_show h
  have e : repOk (ti l) = true := by
    unfold repOk
    rw [h5, h1, decide_eq_true (by omega), decide_eq_true (by omega)]
    rfl
  exact grd_ok e
theorem repr_tis {L : List (List Int)} {k : Nat} (h : ∀ l ∈ L, Rd 100 l ∧ l.length ≤ k) (hk : k ≤ 100) (hl : L.length ≤ 1000) : dRepr [tis L] = .ok (.str (tis L).py.shown) := by
  obtain ⟨h1, h2, h3, h4, h5⟩ := tis_show h
  have hm : (5 + 4 * k) * L.length ≤ 405 * 1000 := Nat.mul_le_mul (by omega) hl
  have e : repOk (tis L) = true := by
    unfold repOk
    rw [h5, h1, decide_eq_true (by omega), decide_eq_true (by omega)]
    rfl
  exact grd_ok e
theorem str_self {s : Str} (h : PyData.strOk s = true) : dEq (.str s) (.str s) = .ok (.bl true) ∧ dNe (.str s) (.str s) = .ok (.bl false) := by
  have c : cmpOk (.str s) (.str s) = true := by simp [cmpOk, D.plain, D.py, SeqAt.shaped, PyData.canLay0, PyData.depth, h]
  have e : PyData.eqv (D.str s).py (D.str s).py = true := by simp [D.py, PyData.eqv]
  unfold dEq dNe
  rw [grd_ok c, grd_ok c, e]
  exact ⟨rfl, rfl⟩
theorem eq_rr (a b : List (List Int)) : dEq (tis a) (tis b) = .ok (.bl (decide (a = b))) := by
  obtain ⟨a1, a2⟩ := py_rows a
  obtain ⟨b1, b2⟩ := py_rows b
  have h : cmpOk (tis a) (tis b) = true := by simp [cmpOk, tis, D.plain, D.py, a1, a2, b1, b2, shaped_rows]
  unfold dEq
  rw [grd_ok h]
  simp only [tis, D.py, PyData.eqv, a1, b1, eqvAll_rows]
theorem ne_lrows (a b : List (List Int)) : dNe (.lst (a.map ti)) (.lst (b.map ti)) = .ok (.bl (!decide (a = b))) := by
  obtain ⟨a1, a2⟩ := py_rows a
  obtain ⟨b1, b2⟩ := py_rows b
  have h : cmpOk (.lst (a.map ti)) (.lst (b.map ti)) = true := by simp [cmpOk, D.plain, D.py, a1, a2, b1, b2, shaped_lrows]
  unfold dNe
  rw [grd_ok h]
  simp only [D.py, PyData.eqv, a1, b1, eqvAll_rows]
end K05
end Y
/-! # PG -/
set_option Elab.async false
set_option linter.all false
set_option maxRecDepth 100000
set_option maxHeartbeats 4000000
namespace Y
open Po PySem
theorem cLoop_fil {α : Type} {b : Bnd} {t : Rho → R Bool} {e : Rho → R D} {ρ : Rho} (F : α → D) (P : α → Bool) (G : α → D) : ∀ ys : List α, (∀ y ∈ ys, ∃ ρ1, b (F y) ρ = some ρ1 ∧ t ρ1 = .ok (P y) ∧ (P y = true → e ρ1 = .ok (G y))) → cLoop b t e ρ (ys.map F) = .ok ((ys.filter P).map G)
  | [], _ => rfl
  | y :: ys, h => by
    obtain ⟨ρ1, h1, h2, h3⟩ := h y List.mem_cons_self
    have ih := cLoop_fil F P G ys fun z hz => h z (List.mem_cons_of_mem _ hz)
    rw [List.map_cons]
    unfold cLoop
    rw [h1]
    show (t ρ1).nb _ = _
    rw [h2, R.nb_ok]
    cases hp : P y with
    | true =>
      rw [if_pos rfl, h3 hp, R.nb_ok, ih, List.filter_cons_of_pos hp]
      rfl
    | false => rw [if_neg Bool.false_ne_true, ih, List.filter_cons_of_neg (by rw [hp]; exact Bool.false_ne_true)]
theorem cLoop_all {α : Type} {b : Bnd} {t : Rho → R Bool} {e : Rho → R D} {ρ : Rho} (F : α → D) (G : α → D) (ys : List α) (h : ∀ y ∈ ys, ∃ ρ1, b (F y) ρ = some ρ1 ∧ t ρ1 = .ok true ∧ e ρ1 = .ok (G y)) : cLoop b t e ρ (ys.map F) = .ok (ys.map G) := by
  have := cLoop_fil (b := b) (t := t) (e := e) (ρ := ρ) F (fun _ => true) G ys fun y hy => by
    obtain ⟨ρ1, h1, h2, h3⟩ := h y hy
    exact ⟨ρ1, h1, h2, fun _ => h3⟩
  rw [this, List.filter_eq_self.mpr fun _ _ => rfl]
theorem vComp {own : List Nat} {mi : Rho → R (List D)} {b : Bnd} {t : Rho → R Bool} {e : Rho → R D} {ρ : Rho} {xs ys : List D} (h : mi ρ = .ok xs) (hl : xs.length ≤ 16777216) (h2 : cLoop b t e (wipeR ρ own) xs = .ok ys) : mComp own mi b t e ρ = .ok ys := by
  unfold mComp
  rw [h, R.bind_ok, grd_ok hl, h2]
theorem rangeD_map (lo : Int) (n : Nat) : rangeD lo n 1 = (List.range n).map fun (i : Nat) => D.int (lo + i) := by
  unfold rangeD
  apply List.map_congr_left
  intro i _
  rw [Int.mul_one]
/-! ### every way out -/
structure Av {α : Type} (t : R α) (P : α → Prop) : Prop where
  h : t.all P (fun _ => False)
theorem Av.imp {α : Type} {t : R α} {P Q : α → Prop} (hp : ∀ d, P d → Q d) (k : Av t P) : Av t Q := ⟨R.all_imp hp (fun _ z => z) k.h⟩
/-- a structure, so that Lean does not run the text when it looks at the goal -/
structure Al (m : Rho → R Out) (ρ : Rho) (P : Out → Prop) : Prop where
  h : (m ρ).all P (fun _ => False)
section
variable {a b body : Rho → R Out} {ρ : Rho} {P : Out → Prop} {i : Nat}
theorem Go.al (h : Go a ρ P) : Al a ρ P := ⟨by
  obtain ⟨o, e, k⟩ := h
  rw [e]
  exact k⟩
theorem Al.seq (h : Al a ρ fun o => ∃ ρ', o = .next ρ' ∧ Al b ρ' P) : Al (mSeq a b) ρ P := ⟨by
  unfold mSeq
  refine R.all_bind.mpr (R.all_imp (fun o z => ?_) (fun _ z => z) h.h)
  obtain ⟨ρ', rfl, z⟩ := z
  exact z.h⟩
theorem Al.gseq (h : Go a ρ fun o => ∃ ρ', o = .next ρ' ∧ Al b ρ' P) : Al (mSeq a b) ρ P := .seq h.al
theorem Al.set {m : Rho → R D} (h : Av (m ρ) fun d => P (.next (ρ.set i (.sh d)))) : Al (mSet i m) ρ P := ⟨R.all_bx.mpr (R.all_imp (fun _ z => z) (fun _ z => z.elim) h.h)⟩
theorem Al.ret {m : Rho → R D} (h : Av (m ρ) fun d => P (.ret d)) : Al (mRet m) ρ P := ⟨R.all_bx.mpr (R.all_imp (fun _ z => z) (fun _ z => z.elim) h.h)⟩
theorem Al.ifT {t : Rho → R Bool} (h : t ρ = .ok true) (k : Al a ρ P) : Al (mIf t a b) ρ P := ⟨by
  unfold mIf
  rw [h]
  exact k.h⟩
theorem Al.ifF {t : Rho → R Bool} (h : t ρ = .ok false) (k : Al b ρ P) : Al (mIf t a b) ρ P := ⟨by
  unfold mIf
  rw [h]
  exact k.h⟩
theorem Al.frz {ds : List D} (e : ρ[i]? = some (.ow ds)) (h : Al a (ρ.set i (.sh (.lst ds))) P) : Al (mFrzS i a) ρ P := ⟨by
  unfold mFrzS
  rw [e]
  exact h.h⟩
theorem Al.for {mi : Rho → R (List D)} {bd : Bnd} {xs : List D} (I : Nat → Rho → Prop) (h : mi ρ = .ok xs) (h0 : I 0 ρ)
    (hs : ∀ i x ρ, xs[i]? = some x → I i ρ → ∃ ρ1, bd x ρ = some ρ1 ∧ Al body ρ1 fun o => ∃ ρ', o = .next ρ' ∧ I (i + 1) ρ') (hd : ∀ ρ', I xs.length ρ' → P (.next ρ')) : Al (mFor mi bd body) ρ P := ⟨by
  unfold mFor
  rw [h]
  refine fLoop_all0 (P := P) I h0 (fun i x ρ hx h2 => ?_) hd
  obtain ⟨ρ1, e, k⟩ := hs i x ρ hx h2
  unfold turnM
  rw [e]
  refine R.all_imp (fun o z => ?_) (fun _ z => z) k.h
  obtain ⟨ρ', rfl, z⟩ := z
  exact z⟩
end
section
variable {ρ : Rho} {a m : Rho → R D} {ma : Rho → R (List D)} {n : Nat} {P : D → Prop}
theorem aOk {α : Type} {t : R α} {d : α} {P : α → Prop} (h : t = .ok d) (k : P d) : Av t P := ⟨by
  rw [h]
  exact k⟩
theorem aCons {Q : List D → Prop} (h : Av (a ρ) fun x => Av (ma ρ) fun xs => Q (x :: xs)) : Av (mCons a ma ρ) Q := ⟨R.all_bind.mpr (R.all_imp (fun x z => R.all_bind.mpr (R.all_imp (fun _ y => y) (fun _ y => y) z.h)) (fun _ z => z) h.h)⟩
theorem aCall {f : List D → R D} (h : Av (ma ρ) fun ds => ds.length = n ∧ Av (f ds) P) : Av (mCall n f ma ρ) P := ⟨R.all_bind.mpr (R.all_imp (fun ds z => R.all_grd.mpr ⟨z.1, z.2.h⟩) (fun _ z => z) h.h)⟩
theorem aBin {f : D → D → R D} {b : Rho → R D} (h : Av (a ρ) fun x => Av (b ρ) fun y => Av (f x y) P) : Av (mBin f a b ρ) P := ⟨R.all_bind.mpr (R.all_imp (fun x z => R.all_bind.mpr (R.all_imp (fun _ y => y.h) (fun _ y => y) z.h)) (fun _ z => z) h.h)⟩
theorem aAny {b : Int} (h0 : 0 < b) (h1 : b < 2 ^ 200) (h : ∀ r, 0 ≤ r → r < b → P (.int r)) : Av (f_any [.deal, .int b]) P := ⟨⟨⟨h0, h1⟩, h⟩⟩
theorem vCallK {π : List Nat} {x y z : Nat} {f : List D → R D} {mk : Rho → R (List D)} {ds es : List D} {d : D} (h : ma ρ = .ok ds) (h2 : mk ρ = .ok es) (hc : ds.length = y ∧ es.length = z ∧ (pick π (ds ++ es)).length = x) (hf : f (pick π (ds ++ es)) = .ok d) : mCallK π x y z f ma mk ρ = .ok d := by
  unfold mCallK
  rw [h, R.bind_ok, h2, R.bind_ok, grd_ok hc, hf]
end
theorem mapM_ints : ∀ ns : List Int, (ns.map D.int).mapM D.int? = some ns
  | [] => rfl
  | n :: ns => by
    rw [List.map_cons, List.mapM_cons, mapM_ints ns]
    rfl
theorem sum_li (ns : List Int) : dSum [li ns] = .ok (.int ns.sum) := by
  show (match (ns.map D.int).mapM D.int? with | some ns => R.ok (D.int ns.sum) | none => .stuck) = _
  rw [mapM_ints]
theorem isi_ti (l : List Int) : dIsi "tuple" (ti l) = .ok (.bl true) := by
  have h : L2.kitB "tuple" "tuple" = some true := by decide +kernel
  show (match L2.kitB "tuple" "tuple" with | some b => R.ok (D.bl b) | none => .stuck) = _
  rw [h]
theorem isi_tis (l : List D) : dIsi "tuple" (.tup l) = .ok (.bl true) := by
  have h : L2.kitB "tuple" "tuple" = some true := by decide +kernel
  show (match L2.kitB "tuple" "tuple" with | some b => R.ok (D.bl b) | none => .stuck) = _
  rw [h]
theorem vSh {ρ : Rho} {m : Rho → R D} {d : D} (h : m ρ = .ok d) : mSh m ρ = .ok (.sh d) := by
  unfold mSh
  rw [h]
  rfl
open Classical in
theorem sortP_ok {ks : List D} (h : InOrder ks) : dSortP [.lst ks] = .ok (.lst ks) := by
  show R.grd (InOrder ks) _ = _
  exact grd_ok h
section
variable {ρ : Rho} {a b c : Rho → R D} {x y : D} {P : D → Prop}
theorem aC2 {f : List D → R D} (ha : a ρ = .ok x) (hb : b ρ = .ok y) (h : Av (f [x, y]) P) : Av (mCall 2 f (mCons a (mCons b mNil)) ρ) P := aCall (aOk (v2 ha hb) ⟨rfl, h⟩)
theorem aC3 {f : List D → R D} (ha : a ρ = .ok x) (hb : b ρ = .ok y) (hc : Av (c ρ) fun z => Av (f [x, y, z]) P) : Av (mCall 3 f (mCons a (mCons b (mCons c mNil))) ρ) P :=
  aCall (aCons (aOk ha (aCons (aOk hb (aCons (hc.imp fun z h => aOk (d := []) rfl ⟨rfl, h⟩))))))
end
namespace K05
open Classical in
noncomputable def irrb (p : Int) (f : List Int) : Bool := decide (Irr p f)
open Classical in
theorem isprime_b {p : Int} {f : List Int} (hp0 : 1 < p) (hp1 : p < 100) (mf : Mo p f) (hl : f.length < 900) (hpe : p ^ (f.length - 1) < 1000000) : f_l_is_prime [.int p, li f] = .ok (.bl (irrb p f)) := by
  obtain ⟨b, e, h⟩ := e_isprime hp0 hp1 mf hl hpe
  rw [e]
  congr 2
  unfold irrb
  cases b with
  | true => exact (decide_eq_true (h.mp rfl)).symm
  | false => exact (decide_eq_false fun z => Bool.false_ne_true (h.mpr z)).symm
theorem al_of {l : List Int} (h0 : 0 < l.length) (h1 : l.length < 1000) : Av (f_l_of [.deal, li l]) fun d => ∃ v ∈ l, d = .int v := by
  have e : f_l_of [.deal, li l] = R.draw ((l.map D.int).length : Nat) fun r => ((lift [.sh .deal, .sh (li l)] (dIx (li l) (.int r)) fun d => .ok (.ret d)).nb endM) := rfl
  constructor
  rw [e, li_len]
  refine ⟨⟨by omega, by omega⟩, fun r r0 r1 => ?_⟩
  obtain ⟨k, rfl⟩ : ∃ k : Nat, r = k := ⟨r.toNat, by omega⟩
  show R.all _ _ ((lift [.sh .deal, .sh (li l)] (dIx (li l) (.int (k : Int))) fun d => .ok (.ret d)).nb endM)
  rw [ix_li (by omega : k < l.length)]
  exact ⟨co l k, by rw [co_get (by omega)]; exact List.getElem_mem _, rfl⟩

theorem al_md {m : Rho → R Out} {ρ : Rho} (h : Al m ρ (fun o => o = .ret (.bl true))) : Md (m ρ) := ⟨h.h⟩
theorem al_md2 {m : Rho → R Out} {ρ ρ' : Rho} (e : ρ' = ρ) (h : Al m ρ (fun o => o = .ret (.bl true))) : Md (m ρ') := by
  rw [e]
  exact al_md h
end K05
end Y
/-! # Q1 -/
set_option Elab.async false
set_option linter.all false
set_option maxRecDepth 100000
set_option maxHeartbeats 2000000
namespace Y
open Po
/-! ### rows modulo p and a monic row f -/
def Cg (p : Int) (f a b : List Int) : Prop := ∃ s h, ∀ t, ev a t = ev b t + ev s t * ev f t + p * ev h t
theorem Cg.refl (p : Int) (f a : List Int) : Cg p f a a := ⟨[], [], fun t => by simp [ev]⟩
theorem Cg.of_ev {p : Int} {f a b : List Int} (h : ∀ t, ev a t = ev b t) : Cg p f a b := ⟨[], [], fun t => by simp [ev, h t]⟩
theorem Cg.of_p {p : Int} {f a b h : List Int} (e : ∀ t, ev a t = ev b t + p * ev h t) : Cg p f a b := ⟨[], h, fun t => by rw [e t]; simp [ev]⟩
theorem Cg.symm {p : Int} {f a b : List Int} (h : Cg p f a b) : Cg p f b a := by
  obtain ⟨s, h, e⟩ := h
  exact ⟨scl (-1) s, scl (-1) h, fun t => by rw [e t, ev_scl, ev_scl]; grind⟩
theorem Cg.trans {p : Int} {f a b c : List Int} (h1 : Cg p f a b) (h2 : Cg p f b c) : Cg p f a c := by
  obtain ⟨s1, h1, e1⟩ := h1
  obtain ⟨s2, h2, e2⟩ := h2
  exact ⟨add s1 s2, add h1 h2, fun t => by rw [e1 t, e2 t, ev_add, ev_add]; grind⟩
theorem Cg.add {p : Int} {f a b c d : List Int} (h1 : Cg p f a b) (h2 : Cg p f c d) : Cg p f (Po.add a c) (Po.add b d) := by
  obtain ⟨s1, h1, e1⟩ := h1
  obtain ⟨s2, h2, e2⟩ := h2
  exact ⟨Po.add s1 s2, Po.add h1 h2, fun t => by rw [ev_add, ev_add, e1 t, e2 t, ev_add, ev_add]; grind⟩
theorem Cg.mul {p : Int} {f a b c d : List Int} (h1 : Cg p f a b) (h2 : Cg p f c d) : Cg p f (Po.mul a c) (Po.mul b d) := by
  obtain ⟨s1, h1, e1⟩ := h1
  obtain ⟨s2, h2, e2⟩ := h2
  refine ⟨Po.add (Po.mul s1 c) (Po.mul b s2), Po.add (Po.mul h1 c) (Po.mul b h2), fun t => ?_⟩
  rw [ev_mul, ev_mul, ev_add, ev_mul, ev_mul, ev_add, ev_mul, ev_mul, e1 t]
  have := e2 t
  grind
theorem Cg.scl {p : Int} {f a b : List Int} (c : Int) (h1 : Cg p f a b) : Cg p f (Po.scl c a) (Po.scl c b) := by
  obtain ⟨s1, h1, e1⟩ := h1
  exact ⟨Po.scl c s1, Po.scl c h1, fun t => by rw [ev_scl, ev_scl, e1 t, ev_scl, ev_scl]; grind⟩
theorem Cg.evl {p : Int} {f a a' b : List Int} (e : ∀ t, ev a t = ev a' t) (h : Cg p f a b) : Cg p f a' b := (Cg.of_ev fun t => (e t).symm).trans h
theorem Cg.evr {p : Int} {f a b b' : List Int} (e : ∀ t, ev b t = ev b' t) (h : Cg p f a b) : Cg p f a b' := h.trans (Cg.of_ev e)
/-- two reduced rows of one length that are alike are one -/
theorem Cg.same {p : Int} {f a b : List Int} {k : Nat} (hp : 0 < p) (hf : f.length = k + 1) (h1 : co f k = 1) (ra : Rd p a) (rb : Rd p b) (la : a.length = k) (lb : b.length = k) (h : Cg p f a b) : a = b := by
  obtain ⟨s, h, e⟩ := h
  have hr : (Po.add a (Po.scl (-1) b)).length ≤ k := by rw [len_add, len_scl, la, lb]; omega
  have z := rest_zero (p := p) (f := []) (q := Po.scl (-1) s) (h := Po.scl (-1) h) hf h1 hr (fun x => by
    rw [ev_add, ev_scl, ev_scl, ev_scl, e x]
    simp only [ev]
    grind) ⟨[], [], fun x => by simp [ev]⟩
  refine List.ext_getElem (by rw [la, lb]) fun i h1 h2 => ?_
  obtain ⟨c, hc⟩ := z i
  rw [Po.co_add, Po.co_scl] at hc
  have ea := co_get h1
  have eb := co_get h2
  obtain ⟨a0, a1⟩ := ra.co hp i
  obtain ⟨b0, b1⟩ := rb.co hp i
  rw [← ea, ← eb]
  have : c = 0 := by
    rcases Int.lt_trichotomy c 0 with z | z | z
    · exfalso
      have : p * c ≤ p * (-1) := Int.mul_le_mul_of_nonneg_left (by omega) (by omega)
      omega
    · exact z
    · exfalso
      have : p * 1 ≤ p * c := Int.mul_le_mul_of_nonneg_left (by omega) (by omega)
      omega
  subst this
  omega
/-! ### rows modulo p, place by place -/
def zw (g : Int → Int → Int) : List Int → List Int → List Int
  | a :: as, b :: bs => g a b :: zw g as bs
  | _, _ => []
theorem zw_len (g : Int → Int → Int) : ∀ (a b : List Int), a.length = b.length → (zw g a b).length = a.length
  | [], [], _ => rfl
  | a :: as, b :: bs, h => by
    rw [zw, List.length_cons, List.length_cons, zw_len g as bs (by simpa using h)]
theorem zw_rd {p : Int} {g : Int → Int → Int} (hg : ∀ a b, 0 ≤ g a b ∧ g a b < p) : ∀ (a b : List Int), Rd p (zw g a b)
  | [], _ => fun c hc => absurd hc List.not_mem_nil
  | _ :: _, [] => fun c hc => absurd hc List.not_mem_nil
  | a :: as, b :: bs => fun c hc => by
    rcases List.mem_cons.mp hc with z | z
    · rw [z]; exact hg a b
    · exact zw_rd hg as bs c z
/-- c * a + b, modulo p -/
def ax (p c : Int) (a b : List Int) : List Int := zw (fun u v => (c * u + v) % p) a b
theorem ax_ev (p c : Int) : ∀ (a b : List Int), a.length = b.length → ∃ h, ∀ t, c * ev a t + ev b t = ev (ax p c a b) t + p * ev h t
  | [], [], _ => ⟨[], fun t => by simp [ev, ax, zw]⟩
  | a :: as, b :: bs, h => by
    obtain ⟨h, e⟩ := ax_ev p c as bs (by simpa using h)
    refine ⟨(c * a + b) / p :: h, fun t => ?_⟩
    have e2 := e t
    have e3 := Int.emod_add_mul_ediv (c * a + b) p
    unfold ax at e2 ⊢
    simp only [ev, zw]
    grind
theorem ax_rd {p c : Int} (hp : 0 < p) (a b : List Int) : Rd p (ax p c a b) := zw_rd (fun u v => ⟨Int.emod_nonneg _ (by omega), Int.emod_lt_of_pos _ hp⟩) a b
theorem ax_len (p c : Int) (a b : List Int) (h : a.length = b.length) : (ax p c a b).length = a.length := zw_len _ a b h
/-- t * r, modulo p and f (fl: f without its last) -/
def xt (p : Int) (fl r : List Int) : List Int := ax p (-(co r (r.length - 1))) fl (0 :: r.dropLast)
theorem ev_last : ∀ (r : List Int) (t : Int), r ≠ [] → ev r t = ev r.dropLast t + co r (r.length - 1) * t ^ (r.length - 1)
  | [], t, h => absurd rfl h
  | [a], t, _ => by simp [ev, co]
  | a :: b :: r, t, _ => by
    have ih := ev_last (b :: r) t (by simp)
    have e1 : co (a :: b :: r) ((a :: b :: r).length - 1) = co (b :: r) ((b :: r).length - 1) := by simp [co]
    rw [e1, List.dropLast_cons_of_ne_nil (by simp), ev, ih, ev]
    simp only [List.length_cons, Nat.add_sub_cancel]
    rw [Int.pow_succ]
    grind
theorem xt_len {p : Int} {fl r : List Int} {k : Nat} (hk : 1 ≤ k) (hf : fl.length = k) (hr : r.length = k) : (xt p fl r).length = k := by
  unfold xt
  rw [ax_len _ _ _ _ (by rw [List.length_cons, List.length_dropLast]; omega), hf]
theorem xt_cg {p : Int} {fl r : List Int} {k : Nat} (hk : 1 ≤ k) (hf : fl.length = k) (hr : r.length = k) : Cg p (fl ++ [1]) (0 :: r) (xt p fl r) := by
  have ne : r ≠ [] := fun z => by rw [z] at hr; simp at hr; omega
  obtain ⟨h, e⟩ := ax_ev p (-(co r (r.length - 1))) fl (0 :: r.dropLast) (by rw [List.length_cons, List.length_dropLast]; omega)
  refine ⟨[co r (r.length - 1)], h, fun t => ?_⟩
  have e2 := e t
  have e3 := ev_last r t ne
  unfold xt
  have e4 : t ^ k = t * t ^ (k - 1) := by
    obtain ⟨j, rfl⟩ : ∃ j, k = j + 1 := ⟨k - 1, by omega⟩
    rw [Nat.add_sub_cancel, Int.pow_succ, Int.mul_comm]
  rw [hr] at e2 e3
  rw [ev_app, hf, e4]
  rw [hr]
  simp only [ev] at e2 ⊢
  rw [e3]
  grind
/-- a * b, modulo p and f -/
def mr (p : Int) (fl : List Int) : List Int → List Int → List Int
  | [], b => List.replicate fl.length 0
  | c :: a, b => ax p c b (xt p fl (mr p fl a b))
theorem mr_ok {p : Int} {fl b : List Int} {k : Nat} (hp : 0 < p) (hk : 1 ≤ k) (hf : fl.length = k) (hb : b.length = k) : ∀ a : List Int, (mr p fl a b).length = k ∧ Rd p (mr p fl a b) ∧ Cg p (fl ++ [1]) (mul a b) (mr p fl a b)
  | [] => by
    refine ⟨by rw [mr, List.length_replicate, hf], fun c hc => ?_, Cg.of_ev fun t => ?_⟩
    · rw [mr] at hc
      rw [List.eq_of_mem_replicate hc]; omega
    · rw [mr, ev_zeros, ev_mul]
      simp [ev]
  | c :: a => by
    obtain ⟨l, r, g⟩ := mr_ok hp hk hf hb a
    have lx := xt_len (p := p) hk hf l
    refine ⟨by rw [mr, ax_len _ _ _ _ (by rw [hb, lx]), hb], ax_rd hp _ _, ?_⟩
    obtain ⟨h, e⟩ := ax_ev p c b (xt p fl (mr p fl a b)) (by rw [hb, lx])
    have g2 := xt_cg (p := p) hk hf l
    -- c b + t (a b)
    have g3 : Cg p (fl ++ [1]) (mul [0, 1] (mul a b)) (mul [0, 1] (mr p fl a b)) := (Cg.refl p _ [0, 1]).mul g
    have g4 : Cg p (fl ++ [1]) (mul [0, 1] (mul a b)) (xt p fl (mr p fl a b)) := (g3.evr fun t => by rw [ev_mul]; simp [ev]).trans g2
    have g5 : Cg p (fl ++ [1]) (Po.add (Po.scl c b) (mul [0, 1] (mul a b))) (Po.add (Po.scl c b) (xt p fl (mr p fl a b))) := (Cg.refl p _ _).add g4
    have g6 : Cg p (fl ++ [1]) (Po.add (Po.scl c b) (xt p fl (mr p fl a b))) (mr p fl (c :: a) b) := Cg.of_p (h := h) fun t => by
      rw [ev_add, ev_scl, mr]
      exact e t
    refine (g5.trans g6).evl fun t => ?_
    rw [ev_add, ev_scl, ev_mul, ev_mul, ev_mul]
    simp only [ev]
    grind
end Y
/-! # Q2 -/
set_option Elab.async false
set_option linter.all false
set_option maxRecDepth 100000
set_option maxHeartbeats 2000000
namespace Y
open Po
/-! ### the elements by numbers -/
/-- fl: a monic row of degree k without its last -/
structure Wd (p : Int) (k : Nat) (fl : List Int) : Prop where
  p1 : 1 < p
  p2 : p < 100
  k1 : 1 ≤ k
  lf : fl.length = k
  rf : Rd p fl
  q2 : p ^ k ≤ 49
def El (p : Int) (k : Nat) (x : Int) : Prop := 0 ≤ x ∧ x < p ^ k
def mm (p : Int) (k : Nat) (fl : List Int) (x y : Int) : Int := ev (mr p fl (dig p k x) (dig p k y)) p
def pl (p : Int) (k : Nat) (x y : Int) : Int := ev (zw (fun a b => (a + b) % p) (dig p k x) (dig p k y)) p
def mi (p : Int) (k : Nat) (x y : Int) : Int := ev (zw (fun a b => (a - b) % p) (dig p k x) (dig p k y)) p
section
variable {p : Int} {k : Nat} {fl : List Int} {x y z : Int}
theorem Wd.mo (w : Wd p k fl) : Mo p (fl ++ [1]) := by
  refine ⟨fun c hc => ?_, by simp, ?_⟩
  · rcases List.mem_append.mp hc with z | z
    · exact w.rf c z
    · rw [List.mem_singleton.mp z]; have := w.p1; omega
  · have : (fl ++ [1]).length - 1 = fl.length := by simp
    rw [this]
    unfold co
    rw [List.getD_eq_getElem?_getD, List.getElem?_append_right (Nat.le_refl _), Nat.sub_self]
    rfl
theorem Wd.top (w : Wd p k fl) : co (fl ++ [1]) k = 1 := by
  have := w.mo.top
  rw [List.length_append, w.lf] at this
  exact this
theorem Wd.len (w : Wd p k fl) : (fl ++ [1]).length = k + 1 := by rw [List.length_append, w.lf]; rfl
theorem Wd.p0 (w : Wd p k fl) : 0 < p := by have := w.p1; omega
theorem ev_el {l : List Int} (hp : 0 < p) (r : Rd p l) (hl : l.length = k) : El p k (ev l p) ∧ dig p k (ev l p) = l := by
  obtain ⟨a, b⟩ := ev_bound hp l r
  rw [hl] at b
  exact ⟨⟨a, b⟩, by rw [← hl]; exact dig_of hp l r⟩
theorem dg_same (w : Wd p k fl) (hx : El p k x) (hy : El p k y) (h : Cg p (fl ++ [1]) (dig p k x) (dig p k y)) : x = y := by
  have e := h.same w.p0 w.len w.top (dig_rd w.p0 k x) (dig_rd w.p0 k y) (dig_len p k x) (dig_len p k y)
  rw [← dig_ev w.p0 k x hx.1 hx.2, ← dig_ev w.p0 k y hy.1 hy.2, e]
theorem mm_ok (w : Wd p k fl) (x y : Int) : El p k (mm p k fl x y) ∧ Cg p (fl ++ [1]) (mul (dig p k x) (dig p k y)) (dig p k (mm p k fl x y)) := by
  obtain ⟨l, r, g⟩ := mr_ok (p := p) w.p0 w.k1 w.lf (dig_len p k y) (dig p k x)
  obtain ⟨a, b⟩ := ev_el w.p0 r l
  refine ⟨a, ?_⟩
  unfold mm
  rw [b]
  exact g
theorem mm_uniq (w : Wd p k fl) (hz : El p k z) (h : Cg p (fl ++ [1]) (mul (dig p k x) (dig p k y)) (dig p k z)) : mm p k fl x y = z := by
  obtain ⟨a, b⟩ := mm_ok w x y
  exact dg_same w a hz (b.symm.trans h)
theorem zw_ev (g : Int → Int → Int) (c : Int) (hg : ∀ a b, ∃ m, a + c * b = g a b + p * m) : ∀ (a b : List Int), a.length = b.length → ∃ h, ∀ t, ev a t + c * ev b t = ev (zw g a b) t + p * ev h t
  | [], [], _ => ⟨[], fun t => by simp [ev, zw]⟩
  | a :: as, b :: bs, h => by
    obtain ⟨h, e⟩ := zw_ev g c hg as bs (by simpa using h)
    obtain ⟨m, em⟩ := hg a b
    refine ⟨m :: h, fun t => ?_⟩
    have e2 := e t
    simp only [ev, zw]
    grind
theorem pl_ok (w : Wd p k fl) (x y : Int) : El p k (pl p k x y) ∧ Cg p (fl ++ [1]) (Po.add (dig p k x) (dig p k y)) (dig p k (pl p k x y)) := by
  have l := zw_len (fun a b => (a + b) % p) (dig p k x) (dig p k y) (by rw [dig_len, dig_len])
  have r : Rd p (zw (fun a b => (a + b) % p) (dig p k x) (dig p k y)) := zw_rd (fun u v => ⟨Int.emod_nonneg _ (by have := w.p0; omega), Int.emod_lt_of_pos _ w.p0⟩) _ _
  obtain ⟨a, b⟩ := ev_el (k := k) w.p0 r (by rw [l, dig_len])
  refine ⟨a, ?_⟩
  unfold pl
  rw [b]
  obtain ⟨h, e⟩ := zw_ev (p := p) (fun a b => (a + b) % p) 1 (fun a b => ⟨(a + b) / p, by have := Int.emod_add_mul_ediv (a + b) p; omega⟩) (dig p k x) (dig p k y) (by rw [dig_len, dig_len])
  exact Cg.of_p (h := h) fun t => by rw [ev_add, ← e t]; omega
theorem mi_ok (w : Wd p k fl) (x y : Int) : El p k (mi p k x y) ∧ Cg p (fl ++ [1]) (Po.add (dig p k x) (Po.scl (-1) (dig p k y))) (dig p k (mi p k x y)) := by
  have l := zw_len (fun a b => (a - b) % p) (dig p k x) (dig p k y) (by rw [dig_len, dig_len])
  have r : Rd p (zw (fun a b => (a - b) % p) (dig p k x) (dig p k y)) := zw_rd (fun u v => ⟨Int.emod_nonneg _ (by have := w.p0; omega), Int.emod_lt_of_pos _ w.p0⟩) _ _
  obtain ⟨a, b⟩ := ev_el (k := k) w.p0 r (by rw [l, dig_len])
  refine ⟨a, ?_⟩
  unfold mi
  rw [b]
  obtain ⟨h, e⟩ := zw_ev (p := p) (fun a b => (a - b) % p) (-1) (fun a b => ⟨(a - b) / p, by have := Int.emod_add_mul_ediv (a - b) p; omega⟩) (dig p k x) (dig p k y) (by rw [dig_len, dig_len])
  exact Cg.of_p (h := h) fun t => by rw [ev_add, ev_scl, ← e t]
theorem mm_comm (w : Wd p k fl) (x y : Int) : mm p k fl x y = mm p k fl y x := mm_uniq w (mm_ok w y x).1 (((mm_ok w y x).2).evl fun t => by rw [ev_mul, ev_mul]; grind)
theorem mm_assoc (w : Wd p k fl) (x y z : Int) : mm p k fl (mm p k fl x y) z = mm p k fl x (mm p k fl y z) := by
  obtain ⟨a1, c1⟩ := mm_ok w x y
  obtain ⟨a2, c2⟩ := mm_ok w y z
  obtain ⟨a3, c3⟩ := mm_ok w x (mm p k fl y z)
  refine mm_uniq w a3 ?_
  -- (xy) z ~ x (y z)
  have h1 := (c1.symm).mul (Cg.refl p (fl ++ [1]) (dig p k z))
  have h2 := (Cg.refl p (fl ++ [1]) (dig p k x)).mul c2
  exact (h1.trans (Cg.of_ev fun t => by rw [ev_mul, ev_mul, ev_mul, ev_mul]; grind)).trans (h2.trans c3)
theorem dig_zero (p : Int) : ∀ k : Nat, dig p k 0 = List.replicate k 0
  | 0 => rfl
  | k + 1 => by rw [dig, Int.zero_emod, Int.zero_ediv, dig_zero p k]; rfl
theorem dig_one_ev {p : Int} (hp : 1 < p) {k : Nat} (hk : 1 ≤ k) (t : Int) : ev (dig p k 1) t = 1 := by
  obtain ⟨j, rfl⟩ : ∃ j, k = j + 1 := ⟨k - 1, by omega⟩
  rw [dig, Int.emod_eq_of_lt (by omega) hp, Int.ediv_eq_zero_of_lt (by omega) hp, dig_zero, ev, ev_zeros]
  omega
theorem one_el (w : Wd p k fl) : El p k 1 := by
  refine ⟨by omega, ?_⟩
  have := K05.pow_mono w.p1 w.k1
  rw [Int.pow_one] at this
  have := w.p1
  omega
theorem mm_one (w : Wd p k fl) (hx : El p k x) : mm p k fl 1 x = x := mm_uniq w hx (Cg.of_ev fun t => by rw [ev_mul, dig_one_ev w.p1 w.k1, Int.one_mul])
theorem mm_zero (w : Wd p k fl) (x : Int) : mm p k fl 0 x = 0 := mm_uniq w ⟨Int.le_refl 0, Int.pow_pos w.p0⟩ (Cg.of_ev fun t => by rw [ev_mul, dig_zero, ev_zeros]; simp)
theorem mm_pl (w : Wd p k fl) (x y z : Int) : mm p k fl x (pl p k y z) = pl p k (mm p k fl x y) (mm p k fl x z) := by
  obtain ⟨_, c1⟩ := pl_ok w y z
  obtain ⟨_, c2⟩ := mm_ok w x y
  obtain ⟨_, c3⟩ := mm_ok w x z
  obtain ⟨a4, c4⟩ := pl_ok w (mm p k fl x y) (mm p k fl x z)
  refine mm_uniq w a4 ?_
  have h1 := (Cg.refl p (fl ++ [1]) (dig p k x)).mul c1.symm
  exact h1.trans (((c2.add c3).evl fun t => by rw [ev_add, ev_mul, ev_mul, ev_mul, ev_add]; grind).trans c4)
theorem pl_mi (w : Wd p k fl) (hx : El p k x) (y : Int) : pl p k (mi p k x y) y = x := by
  obtain ⟨_, c1⟩ := mi_ok w x y
  obtain ⟨a2, c2⟩ := pl_ok w (mi p k x y) y
  refine dg_same w a2 hx (c2.symm.trans ?_)
  exact (c1.symm.add (Cg.refl p (fl ++ [1]) (dig p k y))).evr fun t => by rw [ev_add, ev_add, ev_scl]; omega
/-! powers -/
def pw (p : Int) (k : Nat) (fl : List Int) (g : Int) : Nat → Int
  | 0 => 1
  | n + 1 => mm p k fl (pw p k fl g n) g
theorem pw_el (w : Wd p k fl) (g : Int) : ∀ n, El p k (pw p k fl g n)
  | 0 => one_el w
  | n + 1 => (mm_ok w _ _).1
theorem pw_one (w : Wd p k fl) (hx : El p k x) : pw p k fl x 1 = x := mm_one w hx
theorem pw_add (w : Wd p k fl) (g : Int) (a : Nat) : ∀ b, mm p k fl (pw p k fl g a) (pw p k fl g b) = pw p k fl g (a + b)
  | 0 => by
    rw [pw, mm_comm w]
    exact mm_one w (pw_el w g a)
  | b + 1 => by
    rw [pw, ← mm_assoc w, pw_add w g a b]
    rfl
theorem pw_mul (w : Wd p k fl) (g : Int) (a : Nat) : ∀ b, pw p k fl (pw p k fl g a) b = pw p k fl g (a * b)
  | 0 => rfl
  | b + 1 => by
    rw [pw, pw_mul w g a b, pw_add w]
    rfl
theorem pw_ones (w : Wd p k fl) : ∀ n, pw p k fl 1 n = 1
  | 0 => rfl
  | n + 1 => by rw [pw, pw_ones w n]; exact mm_one w (one_el w)
theorem pw_mod (w : Wd p k fl) {g : Int} {m : Nat} (h : pw p k fl g m = 1) (n : Nat) : pw p k fl g n = pw p k fl g (n % m) := by
  have e : n = m * (n / m) + n % m := (Nat.div_add_mod n m).symm
  rw [show pw p k fl g n = pw p k fl g (m * (n / m) + n % m) from by rw [← e], ← pw_add w, ← pw_mul w, h, pw_ones w]
  exact mm_one w (pw_el w g _)
theorem pw_zero (w : Wd p k fl) {n : Nat} (h : 1 ≤ n) : pw p k fl 0 n = 0 := by
  obtain ⟨j, rfl⟩ : ∃ j, n = j + 1 := ⟨n - 1, by omega⟩
  rw [pw, mm_comm w, mm_zero w]
/-! sums to the power p -/
def rpw (r : List Int) : Nat → List Int
  | 0 => [1]
  | n + 1 => mul (rpw r n) r
theorem ev_rpw (r : List Int) (t : Int) : ∀ n, ev (rpw r n) t = ev r t ^ n
  | 0 => by simp [rpw, ev]
  | n + 1 => by rw [rpw, ev_mul, ev_rpw r t n, Int.pow_succ]
theorem pw_cg (w : Wd p k fl) (x : Int) : ∀ n, Cg p (fl ++ [1]) (rpw (dig p k x) n) (dig p k (pw p k fl x n))
  | 0 => Cg.of_ev fun t => by rw [pw, dig_one_ev w.p1 w.k1]; simp [rpw, ev]
  | n + 1 => ((pw_cg w x n).mul (Cg.refl p _ (dig p k x))).trans (mm_ok w _ _).2
theorem rpw_cg {f a b : List Int} (h : Cg p f a b) : ∀ n, Cg p f (rpw a n) (rpw b n)
  | 0 => Cg.refl p f _
  | n + 1 => (rpw_cg h n).mul h
theorem frob_row {f a b : List Int} {n : Nat} (h : (p = 2 ∧ n = 2) ∨ (p = 3 ∧ n = 3) ∨ (p = 5 ∧ n = 5) ∨ (p = 7 ∧ n = 7)) : Cg p f (rpw (Po.add a b) n) (Po.add (rpw a n) (rpw b n)) := by
  rcases h with ⟨rfl, rfl⟩ | ⟨rfl, rfl⟩ | ⟨rfl, rfl⟩ | ⟨rfl, rfl⟩
  · exact Cg.of_p (h := mul a b) fun t => by simp only [ev_add, ev_rpw, ev_mul]; grind
  · exact Cg.of_p (h := Po.add (mul (mul a a) b) (mul a (mul b b))) fun t => by simp only [ev_add, ev_rpw, ev_mul]; grind
  · exact Cg.of_p (h := Po.add (Po.add (mul (rpw a 4) b) (Po.scl 2 (mul (rpw a 3) (rpw b 2)))) (Po.add (Po.scl 2 (mul (rpw a 2) (rpw b 3))) (mul a (rpw b 4)))) fun t => by simp only [ev_add, ev_rpw, ev_mul, ev_scl]; grind
  · exact Cg.of_p (h := Po.add (Po.add (Po.add (mul (rpw a 6) b) (Po.scl 3 (mul (rpw a 5) (rpw b 2)))) (Po.scl 5 (mul (rpw a 4) (rpw b 3)))) (Po.add (Po.add (Po.scl 5 (mul (rpw a 3) (rpw b 4))) (Po.scl 3 (mul (rpw a 2) (rpw b 5)))) (mul a (rpw b 6)))) fun t => by simp only [ev_add, ev_rpw, ev_mul, ev_scl]; grind
theorem frob1 (w : Wd p k fl) {n : Nat} (h : (p = 2 ∧ n = 2) ∨ (p = 3 ∧ n = 3) ∨ (p = 5 ∧ n = 5) ∨ (p = 7 ∧ n = 7)) (x y : Int) : pw p k fl (pl p k x y) n = pl p k (pw p k fl x n) (pw p k fl y n) := by
  obtain ⟨a1, c1⟩ := pl_ok w x y
  obtain ⟨a2, c2⟩ := pl_ok w (pw p k fl x n) (pw p k fl y n)
  refine dg_same w (pw_el w _ n) a2 ?_
  have h1 := (pw_cg w (pl p k x y) n).symm
  have h2 := rpw_cg c1.symm n
  have h3 := frob_row (p := p) (f := fl ++ [1]) (a := dig p k x) (b := dig p k y) h
  have h4 := (pw_cg w x n).add (pw_cg w y n)
  exact (((h1.trans h2).trans h3).trans h4).trans c2
theorem frob (w : Wd p k fl) {n : Nat} (h : (p = 2 ∧ n = 2) ∨ (p = 3 ∧ n = 3) ∨ (p = 5 ∧ n = 5) ∨ (p = 7 ∧ n = 7)) (x y : Int) (hx : El p k x) (hy : El p k y) : ∀ j : Nat, pw p k fl (pl p k x y) (n ^ j) = pl p k (pw p k fl x (n ^ j)) (pw p k fl y (n ^ j))
  | 0 => by rw [Nat.pow_zero, pw_one w (pl_ok w x y).1, pw_one w hx, pw_one w hy]
  | j + 1 => by
    rw [Nat.pow_succ, ← pw_mul w, frob w h x y hx hy j, frob1 w h, pw_mul w, pw_mul w]
end
end Y
/-! # Q4 -/
set_option Elab.async false
set_option linter.all false
set_option maxRecDepth 100000
set_option maxHeartbeats 2000000
namespace Y
open Po
def Row (d : D) (l : List Int) : Prop := d = ti l ∨ d = li l
theorem Row.len {d : D} {l : List Int} (h : Row d l) : dLen [d] = .ok (.int l.length) := by
  rcases h with rfl | rfl
  · exact len_ti l
  · exact len_li l
theorem Row.enum {d : D} {l : List Int} (h : Row d l) : dEnum [d] = .ok (enumD (l.map D.int)) := by
  rcases h with rfl | rfl <;> rfl
theorem en_ints {l : List Int} {i : Nat} {d : D} (h : (enumD (l.map D.int))[i]? = some d) : i < l.length ∧ d = .tup [.int (i : Nat), .int (co l i)] := by
  obtain ⟨x, hx, rfl⟩ := en_mem h
  rw [List.getElem?_map] at hx
  cases q : l[i]? with
  | none => rw [q] at hx; cases hx
  | some v =>
    rw [q] at hx
    cases hx
    obtain ⟨hi, e⟩ := List.getElem?_eq_some_iff.mp q
    exact ⟨hi, by rw [co_get hi, e]⟩
theorem rd_zeros {p : Int} (hp : 0 < p) (n : Nat) : Rd p (List.replicate n 0) := fun c hc => by rw [List.eq_of_mem_replicate hc]; omega
/-- the turns of a product's loops -/
theorem ev_back {l : List Int} {p : Int} {i : Nat} (hi : i < l.length) : ev (l.drop (l.length - (i + 1))) p = l[l.length - 1 - i]'(by omega) + p * ev (l.drop (l.length - i)) p := by
  have hlt : l.length - (i + 1) < l.length := by omega
  rw [List.drop_eq_getElem_cons hlt, ev]
  have e3 : l.length - (i + 1) + 1 = l.length - i := by omega
  rw [e3]
  congr 1
  congr 1
  omega
theorem rev_ints {l : List Int} {i : Nat} {d : D} (h : ((l.map D.int).reverse)[i]? = some d) : ∃ hi : i < l.length, d = .int (l[l.length - 1 - i]'(by omega)) := by
  obtain ⟨hi, _⟩ := List.getElem?_eq_some_iff.mp h
  rw [List.length_reverse, li_len] at hi
  rw [List.getElem?_reverse (by rw [li_len]; exact hi), li_len, List.getElem?_map, List.getElem?_eq_getElem (by omega)] at h
  cases h
  exact ⟨hi, rfl⟩
def wD (p : Int) (fl : List Int) : D := .tup [.int p, li (fl ++ [1])]
theorem w_p {p : Int} {fl : List Int} : dIx (wD p fl) (.int 0) = .ok (.int p) := rfl
theorem w_f {p : Int} {fl : List Int} : dIx (wD p fl) (.int 1) = .ok (li (fl ++ [1])) := rfl
theorem vCut {ρ : Rho} {m : Rho → R D} {ml mh : Rho → R (Option Int)} {xs : List D} {lo hi : Option Int} (h : m ρ = .ok (.lst xs)) (h1 : ml ρ = .ok lo) (h2 : mh ρ = .ok hi) : mCut m ml mh ρ = .ok (.lst (cutD xs lo hi)) := by
  unfold mCut
  rw [h, R.bind_ok, h1, R.bind_ok, h2, R.bind_ok]
theorem vCutT {ρ : Rho} {m : Rho → R D} {ml mh : Rho → R (Option Int)} {xs : List D} {lo hi : Option Int} (h : m ρ = .ok (.tup xs)) (h1 : ml ρ = .ok lo) (h2 : mh ρ = .ok hi) : mCut m ml mh ρ = .ok (.tup (cutD xs lo hi)) := by
  unfold mCut
  rw [h, R.bind_ok, h1, R.bind_ok, h2, R.bind_ok]
theorem cut_but_last {α : Type} (xs : List α) (x : α) : cutD (xs ++ [x]) none (some (-1)) = xs := by
  unfold cutD
  have e : HT.sIx (xs ++ [x]).length (xs ++ [x]).length (some (-1)) = xs.length := by
    show (if (-1 : Int) < 0 then ((-1 : Int) + ((xs ++ [x]).length : Int)).toNat else min (-1 : Int).toNat (xs ++ [x]).length) = _
    rw [if_pos (by decide), List.length_append]
    simp
    omega
  rw [e, HT.sIx_none, List.drop_zero, Nat.sub_zero, List.take_left]
namespace K05
section
variable {p : Int} {k : Nat} {fl : List Int}
theorem lt_pow {p : Int} (hp : 1 < p) : ∀ k : Nat, (k : Int) < p ^ k
  | 0 => by rw [Int.pow_zero]; decide
  | k + 1 => by
    have ih := lt_pow hp k
    rw [Int.pow_succ]
    have : p ^ k * 2 ≤ p ^ k * p := Int.mul_le_mul_of_nonneg_left (by omega) (by omega)
    omega
theorem k_small (w : Wd p k fl) : k < 50 := by
  have h := lt_pow w.p1 k
  have h2 := w.q2
  omega
theorem len_w {x : Int} (w : Wd p k fl) : mBin dSub (mBi dLen (mCons (mBin dIx (mVarB 0) (mC (.int 1))) mNil)) (mC (.int 1)) [.sh (wD p fl), .sh (.int x)] = .ok (.int k) :=
  vBin (vBi (v1 (vBin rfl rfl w_f)) (len_li _)) rfl (sub1 w.len)
theorem e_ldigits (w : Wd p k fl) (x : Int) : f_l_digits [wD p fl, .int x] = .ok (li (dig p k x)) := by
  refine fun_ok (.ret (d := li (dig p k x)) ?_ rfl)
  have h1 := e_monic w.p1 w.p2 (d := k) (by have := k_small w; omega) x
  have h2 : mCut (mCall 3 f_l_monic (mCons (mBin dIx (mVarB 0) (mC (.int 0))) (mCons (mBin dSub (mBi dLen (mCons (mBin dIx (mVarB 0) (mC (.int 1))) mNil)) (mC (.int 1))) (mCons (mVar 1) mNil)))) mNone (mPart (mUn dNeg (mC (.int 1)))) [.sh (wD p fl), .sh (.int x)] = .ok (.lst (cutD ((num p k x).map D.int) none (some (-1)))) :=
    vCut (vCall (vCons (vBin rfl rfl w_p) (vCons (len_w w) (v1 rfl))) rfl h1) rfl rfl
  refine h2.trans ?_
  unfold num
  rw [List.map_append]
  show R.ok (D.lst (cutD ((dig p k x).map D.int ++ [D.int 1]) none (some (-1)))) = _
  rw [cut_but_last]
  rfl
theorem e_lnumber (w : Wd p k fl) {l : List Int} (hl : l.length < 1000) : f_l_number [wD p fl, li l] = .ok (.int (ev l p)) := by
  refine fun_ok (.seq (.set (d := .int 0) rfl ⟨_, rfl, .seq (.for (fun i ρ => ρ = [.sh (wD p fl), .sh (li l), .sh (.int (ev (l.drop (l.length - i)) p)), .no]) (xs := (l.map D.int).reverse) rfl ?_ ?_ ?_)⟩))
  · rw [Nat.sub_zero, List.drop_length]
    rfl
  · rintro i x ρ hx rfl
    obtain ⟨hi, rfl⟩ := rev_ints hx
    refine ⟨_, rfl, .seq (.set (d := .int (ev (l.drop (l.length - (i + 1))) p)) (vBin (vBin rfl (vBin rfl rfl w_p) (mul_ii (.inr (sm64 w.p1 w.p2)))) rfl ?_) ⟨_, rfl, .no (.skip ⟨_, rfl, rfl⟩)⟩)⟩
    rw [ev_back hi]
    show R.ok (D.int _) = _
    congr 2
    rw [Int.mul_comm]
    omega
  · rintro ρ rfl
    rw [List.length_reverse, li_len, Nat.sub_self, List.drop_zero]
    exact ⟨_, rfl, .ret rfl rfl⟩
end
end K05
end Y
/-! # Q5 -/
set_option Elab.async false
set_option linter.all false
set_option maxRecDepth 100000
set_option maxHeartbeats 4000000
namespace Y
open Po
theorem cLoop_zip {b : Bnd} {e : Rho → R D} {ρ : Rho} {g : Int → Int → Int} (h : ∀ x y, ∃ ρ1, b (.tup [.int x, .int y]) ρ = some ρ1 ∧ e ρ1 = .ok (.int (g x y))) : ∀ (l m : List Int), cLoop b mYes e ρ (zipD (l.map D.int) (m.map D.int)) = .ok ((zw g l m).map D.int)
  | [], m => by simp [zipD, cLoop, zw]
  | x :: l, [] => by simp [zipD, cLoop, zw]
  | x :: l, y :: m => by
    obtain ⟨ρ1, h1, h2⟩ := h x y
    have ih := cLoop_zip h l m
    have ez : zipD ((x :: l).map D.int) ((y :: m).map D.int) = .tup [.int x, .int y] :: zipD (l.map D.int) (m.map D.int) := rfl
    rw [ez, cLoop, h1]
    show (mYes ρ1).nb _ = _
    show (if true = true then (e ρ1).nb fun d => (cLoop b mYes e ρ (zipD (l.map D.int) (m.map D.int))).bind fun ds => .ok (d :: ds) else cLoop b mYes e ρ (zipD (l.map D.int) (m.map D.int))) = _
    rw [if_pos rfl, h2, R.nb_ok, ih]
    rfl
theorem zipD_ints (l m : List Int) : (zipD (l.map D.int) (m.map D.int)).length = min l.length m.length := by rw [zipD_len, li_len, li_len]
theorem vArgs {ρ : Rho} {f : List D → R (List D)} {m : Rho → R (List D)} {ds xs : List D} (h : m ρ = .ok ds) (h2 : f ds = .ok xs) : mArgs f m ρ = .ok xs := by
  unfold mArgs
  rw [h]
  exact h2
namespace K05
section
variable {p : Int} {k : Nat} {fl : List Int}
theorem e_lplus (w : Wd p k fl) (x y : Int) : f_l_plus [wD p fl, .int x, .int y] = .ok (.int (pl p k x y)) := by
  have hk := k_small w
  refine fun_ok (.ret (d := .int (pl p k x y)) (vCall (v2 (y := li (zw (fun a b => (a + b) % p) (dig p k x) (dig p k y))) rfl (vFrz (vComp (xs := zipD ((dig p k x).map D.int) ((dig p k y).map D.int)) (vArgs (v2 (vCall (v2 rfl rfl) rfl (e_ldigits w x)) (vCall (v2 rfl rfl) rfl (e_ldigits w y))) rfl) (by rw [zipD_ints, dig_len]; omega)
    (cLoop_zip (g := fun a b => (a + b) % p) (fun a b => ⟨_, rfl, vBin (vBi (v1 (vBin rfl rfl rfl)) rfl) (vBin rfl rfl w_p) (mod_ii w.p0)⟩) _ _)))) rfl (e_lnumber w ?_)) rfl)
  rw [zw_len _ _ _ (by rw [dig_len, dig_len]), dig_len]
  omega
theorem nn_mul2 (n : Nat) : dMul (.int 2) (.int (n : Nat)) = .ok (.int ((2 * n : Nat) : Int)) := by
  rw [mul_ii (.inl ⟨by decide, by decide⟩)]
  congr 2
theorem e_ltimes (w : Wd p k fl) (x y : Int) : f_l_times [wD p fl, .int x, .int y] = .ok (.int (mm p k fl x y)) := by
  have hk := k_small w
  have hp0 := w.p1
  have hp1 := w.p2
  obtain ⟨a, ea⟩ : ∃ a, a = dig p k x := ⟨_, rfl⟩
  obtain ⟨b, eb⟩ : ∃ b, b = dig p k y := ⟨_, rfl⟩
  have la : a.length = k := by rw [ea, dig_len]
  have lb : b.length = k := by rw [eb, dig_len]
  have ra : Rd p a := by rw [ea]; exact dig_rd w.p0 k x
  have rb : Rd p b := by rw [eb]; exact dig_rd w.p0 k y
  refine fun_ok (.seq (.own (ds := (List.replicate (2 * (k + 1)) 0).map D.int) ?_ ⟨_, rfl, .seq
      (.for (fun i ρ => ∃ F, ρ = [.sh (wD p fl), .sh (.int x), .sh (.int y), .ow (F.map D.int), .no, .no, .no, .no] ∧ F.length = 2 * (k + 1) ∧ Rd p F ∧ ∃ h, ∀ t, ev (a.take i) t * ev b t = ev F t + p * ev h t) (xs := enumD (a.map D.int)) ?_ ?_ ?_ ?_)⟩))
  · rw [List.map_replicate]
    refine vMulL rfl (vBin rfl (vBi (v1 (vBin rfl rfl w_f)) (len_li _)) ?_) (by omega)
    rw [w.len]
    exact nn_mul2 (k + 1)
  · refine vArgs (v1 (vCall (v2 rfl rfl) rfl (e_ldigits w x))) ?_
    rw [ea]
    rfl
  · exact ⟨_, rfl, List.length_replicate, rd_zeros (by omega) _, [], fun t => by rw [ev_zeros]; simp [ev]⟩
  · rintro i z ρ hz ⟨F, rfl, lF, rF, h, e⟩
    obtain ⟨hi, rfl⟩ := en_ints hz
    have ai := ra.co (show 0 < p by omega) i
    refine ⟨_, rfl, .seq (.for (fun j ρ => ∃ F, ρ = [.sh (wD p fl), .sh (.int x), .sh (.int y), .ow (F.map D.int), .sh (.int (i : Nat)), .sh (.int (co a i)), .no, .no] ∧ F.length = 2 * (k + 1) ∧ Rd p F ∧ ∃ h, ∀ t, ev (a.take i) t * ev b t + t ^ i * co a i * ev (b.take j) t = ev F t + p * ev h t) (xs := enumD (b.map D.int)) ?_ ⟨F, rfl, lF, rF, h, fun t => by rw [← e t]; simp [ev]⟩ ?_ ?_)⟩
    · refine vArgs (v1 (vCall (v2 rfl rfl) rfl (e_ldigits w y))) ?_
      rw [eb]
      rfl
    · rintro j z ρ hz ⟨F, rfl, lF, rF, h, e⟩
      obtain ⟨hj, rfl⟩ := en_ints hz
      have v0 := Int.emod_nonneg (co F (i + j) + co a i * co b j) (show p ≠ 0 by omega)
      have v1' := Int.emod_lt_of_pos (co F (i + j) + co a i * co b j) (show 0 < p by omega)
      have vd := Int.emod_add_mul_ediv (co F (i + j) + co a i * co b j) p
      refine ⟨_, rfl, .seq (.store (v := .int ((co F (i + j) + co a i * co b j) % p)) (j := ((i + j : Nat) : Int)) (n := i + j) rfl ?_ (vBin rfl rfl (add_nn i j)) (ixN_nat (by rw [li_len]; omega)) ⟨_, rfl, .no (.no (.skip ⟨_, rfl, F.set (i + j) ((co F (i + j) + co a i * co b j) % p), ?_, by rw [List.length_set]; exact lF, rd_set rF v0 v1', add h (mono (i + j) ((co F (i + j) + co a i * co b j) / p)), fun t => ?_⟩))⟩)⟩
      · exact vBin (vBi (v1 (vBin (vBin rfl (vBin rfl rfl (add_nn i j)) (ix_li (by omega))) (vBin rfl rfl (mul_ii (.inl (sm_rd ai.1 ai.2 hp1)))) rfl)) rfl) (vBin rfl rfl w_p) (mod_ii (by omega))
      · rw [map_set F]
        rfl
      · have y := e t
        rw [ev_take_succ hj, ev_set _ _ _ _ (by omega), ev_add, ev_mono, Int.pow_add]
        have : (co F (i + j) + co a i * co b j) % p = co F (i + j) + co a i * co b j - p * ((co F (i + j) + co a i * co b j) / p) := by omega
        rw [this]
        grind
    · rintro ρ ⟨F, rfl, lF, rF, h, e⟩
      rw [enumD_len, li_len, List.take_length] at e
      refine ⟨_, rfl, .no (.no (.no (.no (.skip ⟨_, rfl, F, rfl, lF, rF, h, fun t => ?_⟩))))⟩
      rw [← e t, ev_take_succ hi]
      grind
  · rintro ρ ⟨F, rfl, lF, rF, h, e⟩
    rw [enumD_len, li_len, List.take_length] at e
    obtain ⟨q, r, er, dv⟩ := e_lrest (p := p) (a := F) (g := fl ++ [1]) (m := k) hp0 hp1 rF w.mo.rd w.len w.top (by omega) (by omega)
    have lr : (r.take k).length = k := by
      rw [List.length_take, dv.rl, List.length_append, List.length_replicate]
      omega
    refine ⟨_, rfl, .frz rfl (.ret (d := .int (mm p k fl x y)) (vCall (v2 rfl (vCall (vCons (vBin rfl rfl w_p) (vCons rfl (v1 (vBin rfl rfl w_f)))) rfl er)) rfl ?_) rfl)⟩
    rw [e_lnumber w (by omega)]
    obtain ⟨e1, e2⟩ := ev_el (k := k) w.p0 (rd_take dv.rr k) lr
    congr 2
    refine (mm_uniq w e1 ?_).symm
    rw [e2, ← ea, ← eb]
    obtain ⟨h2, e3⟩ := dv.e
    refine ⟨q, add h (scl 1 h2), fun t => ?_⟩
    have e4 := e3 t
    rw [ev_app, ev_zeros] at e4
    rw [ev_mul, e t, ev_add, ev_scl, ev_cut dv.end]
    grind
end
end K05
end Y
/-! # Q3 -/
set_option Elab.async false
set_option linter.all false
set_option maxRecDepth 100000
set_option maxHeartbeats 4000000
namespace Y
open Po
/-! ### the powers of an element, a maker -/
def orow (t : Int → Int → Int) (m : Int) : Nat → Int → List Int
  | 0, _ => []
  | n + 1, u => if u = 1 then [] else u :: orow t m n (t u m)
def prow (t : Int → Int → Int) (m : Int) : List Int := 1 :: orow t m 60 m
/-- the value is reckoned before it is handed on (the kernel) -/
def fcN {α : Type} (z : α) (x : Int) (f : Nat → α) : α := match x with
  | .ofNat n => match n with
    | 0 => f 0
    | j + 1 => f (j + 1)
  | .negSucc _ => z
theorem fcN_eq {α : Type} {z : α} {x : Int} {f : Nat → α} {r : α} (h : fcN z x f = r) (hz : z ≠ r) : ∃ n : Nat, x = n ∧ f n = r := by
  unfold fcN at h
  split at h
  · split at h
    · exact ⟨0, rfl, h⟩
    · exact ⟨_, rfl, h⟩
  · exact absurd h hz
/-- the powers of m from u on, those so far behind them -/
def goP (t : Int → Int → Int) (m : Nat) : Nat → Nat → List Nat → Option (List Nat)
  | 0, _, _ => none
  | n + 1, u, acc => if u = 1 then some acc.reverse else fcN none (t u m) fun v => goP t m n v (u :: acc)
theorem goP_ok {t : Int → Int → Int} {m : Nat} : ∀ (n u : Nat) (acc L : List Nat), goP t m n u acc = some L → ∃ M : List Nat, L = acc.reverse ++ M ∧ orow t m n u = M.map (fun (i : Nat) => (i : Int)) ∧ M.length < n
  | 0, u, acc, L, h => by cases h
  | n + 1, u, acc, L, h => by
    unfold goP at h
    split at h
    · rename_i e
      cases h
      subst e
      exact ⟨[], by simp, by simp [orow], Nat.succ_pos n⟩
    · rename_i ne
      obtain ⟨v, ev, h2⟩ := fcN_eq h (by simp)
      obtain ⟨M, e1, e2, e3⟩ := goP_ok n v (u :: acc) L h2
      refine ⟨u :: M, by rw [e1]; simp, ?_, by rw [List.length_cons]; omega⟩
      rw [orow, if_neg (by omega), ev, e2]
      rfl
def full (q : Nat) (L : List Nat) : Bool := decide (L.length = q - 1) && ((List.range q).all fun x => x == 0 || L.contains x) && (L.all fun x => decide (x < q) && decide (0 < x))
def findG (t : Int → Int → Int) (q : Nat) : Nat → Nat → Bool
  | 0, _ => false
  | n + 1, m => match goP t m 60 m [] with
    | some L => if L.length + 1 < q - 1 then findG t q n (m + 1) else full q (1 :: L)
    | none => false
/-- a maker, the lesser ones with fewer powers -/
structure Gn (t : Int → Int → Int) (q g : Nat) (L : List Nat) : Prop where
  g1 : 1 ≤ g
  less : ∀ m : Nat, 1 ≤ m → m < g → (orow t m 60 m).length < 60 ∧ (orow t m 60 m).length + 1 < q - 1
  row : prow t g = L.map fun (i : Nat) => (i : Int)
  len : L.length = q - 1
  fin : (orow t g 60 g).length < 60
  all : ∀ x, 1 ≤ x → x < q → x ∈ L
  rng : ∀ x ∈ L, 1 ≤ x ∧ x < q
theorem findG_ok {t : Int → Int → Int} {q : Nat} : ∀ (n m : Nat), 1 ≤ m → (∀ j : Nat, 1 ≤ j → j < m → (orow t j 60 j).length < 60 ∧ (orow t j 60 j).length + 1 < q - 1) → findG t q n m = true → ∃ g L, m ≤ g ∧ g < m + n ∧ Gn t q g L
  | 0, m, _, _, h => by cases h
  | n + 1, m, hm, hl, h => by
    unfold findG at h
    split at h
    · rename_i L eL
      obtain ⟨M, e1, e2, e3⟩ := goP_ok 60 m [] L eL
      have e1 : L = M := by simpa using e1
      subst e1
      split at h
      · rename_i hlt
        obtain ⟨g, L', h1, h2, h3⟩ := findG_ok n (m + 1) (by omega) (fun j j1 j2 => by
          by_cases hj : j = m
          · subst hj
            rw [e2, List.length_map]
            exact ⟨e3, hlt⟩
          · exact hl j j1 (by omega)) h
        exact ⟨g, L', by omega, by omega, h3⟩
      · unfold full at h
        rw [Bool.and_eq_true, Bool.and_eq_true] at h
        obtain ⟨⟨h1, h2⟩, h3⟩ := h
        refine ⟨m, 1 :: L, Nat.le_refl m, by omega, hm, hl, by rw [prow, e2]; rfl, of_decide_eq_true h1, by rw [e2, List.length_map]; exact e3, fun x x1 x2 => ?_, fun x hx => ?_⟩
        · have := List.all_eq_true.mp h2 x (List.mem_range.mpr x2)
          rw [Bool.or_eq_true] at this
          rcases this with z | z
          · have : x = 0 := by simpa using z
            omega
          · simpa using z
        · have := List.all_eq_true.mp h3 x hx
          rw [Bool.and_eq_true] at this
          have a := of_decide_eq_true this.1
          have b := of_decide_eq_true this.2
          omega
    · cases h
def isT : R D → Bool
  | .ok (.bl true) => true
  | _ => false
def sizes2 : List (Nat × Nat) := [(2, 2), (2, 3), (3, 2), (2, 4), (5, 2), (3, 3), (2, 5), (7, 2)]
def primes : List Nat := [2, 3, 5, 7, 11, 13, 17, 19, 23, 29, 31, 37, 41, 43, 47]
theorem makers1 : (primes.all fun p => findG (fun x y => x * y % (p : Nat)) p p 1) = true := by decide +kernel
namespace K05
def mk2 (s : Nat × Nat) : Bool := (List.range (s.1 ^ s.2)).all fun n => !(isT (f_l_is_prime [.int (s.1 : Nat), li (num (s.1 : Nat) s.2 (n : Nat))])) || findG (mm (s.1 : Nat) s.2 (dig (s.1 : Nat) s.2 (n : Nat))) (s.1 ^ s.2) (s.1 ^ s.2) 1
theorem makers22 : mk2 (2, 2) = true := by decide +kernel
theorem makers23 : mk2 (2, 3) = true := by decide +kernel
theorem makers32 : mk2 (3, 2) = true := by decide +kernel
end K05
end Y
/-! # Q3b -/
set_option Elab.async false
set_option linter.all false
set_option maxRecDepth 100000
set_option maxHeartbeats 4000000
namespace Y
open Po
namespace K05
theorem makers24 : mk2 (2, 4) = true := by decide +kernel
theorem makers52 : mk2 (5, 2) = true := by decide +kernel
theorem makers33 : mk2 (3, 3) = true := by decide +kernel
theorem makers25 : mk2 (2, 5) = true := by decide +kernel
theorem makers72 : mk2 (7, 2) = true := by decide +kernel
theorem makers2 : ∀ s ∈ sizes2, mk2 s = true := by
  intro s hs
  unfold sizes2 at hs
  simp only [List.mem_cons, List.not_mem_nil, or_false] at hs
  rcases hs with rfl | rfl | rfl | rfl | rfl | rfl | rfl | rfl
  · exact makers22
  · exact makers23
  · exact makers32
  · exact makers24
  · exact makers52
  · exact makers33
  · exact makers25
  · exact makers72
end K05
end Y
/-! # Q6 -/
set_option Elab.async false
set_option linter.all false
set_option maxRecDepth 100000
set_option maxHeartbeats 4000000
namespace Y
open Po
/-- the row r, k long -/
def pad (k : Nat) (r : List Int) : List Int := (r ++ List.replicate k 0).take k
theorem pad_len (k : Nat) (r : List Int) : (pad k r).length = k := by
  unfold pad
  rw [List.length_take, List.length_append, List.length_replicate]
  omega
theorem pad_rd {p : Int} (hp : 0 < p) {k : Nat} {r : List Int} (h : Rd p r) : Rd p (pad k r) := fun c hc => by
  rcases List.mem_append.mp (List.mem_of_mem_take hc) with z | z
  · exact h c z
  · rw [List.eq_of_mem_replicate z]; omega
theorem pad_ev {k : Nat} {r : List Int} (h : ∀ j, k ≤ j → co r j = 0) (t : Int) : ev (pad k r) t = ev r t := by
  unfold pad
  rw [ev_cut (fun j hj => ?_), ev_app, ev_zeros, Int.mul_zero, Int.add_zero]
  by_cases hl : j < r.length
  · have := h j hj
    unfold co at this ⊢
    rw [List.getD_eq_getElem?_getD, List.getElem?_append_left hl, ← List.getD_eq_getElem?_getD]
    exact this
  · unfold co
    rw [List.getD_eq_getElem?_getD, List.getElem?_append_right (by omega), List.getElem?_replicate]
    split <;> rfl
def ob (p : Int) (k : Nat) (fl : List Int) (rest : List D) : D := .obj 0 (.int p :: ti (fl ++ [1]) :: .int k :: rest)
theorem vMeth {ρ : Rho} {n a : Nat} {m : List D → R D} {mo : Rho → R D} {ma : Rho → R (List D)} {o d : D} {ds : List D} (h : mo ρ = .ok o) (h1 : isObj n o = true) (h2 : ma ρ = .ok ds) (h3 : ds.length + 1 = a) (h4 : m (o :: ds) = .ok d) : mMeth n a m mo ma ρ = .ok d := by
  unfold mMeth
  rw [h, R.bind_ok, grd_ok h1, h2, R.bind_ok, grd_ok h3, h4]
namespace K05
section
variable {p : Int} {k : Nat} {fl : List Int}
theorem e_digits (w : Wd p k fl) (x : Int) : f_digits_of [.int x, .int p, .int k] = .ok (ti (dig p k x)) := by
  have hk := k_small w
  refine fun_ok (.ret (d := ti (dig p k x)) ?_ rfl)
  refine (vCutT (xs := (num p k x).map D.int) (vCall (vCons rfl (vCons rfl (v1 rfl))) rfl (e_num w.p1 w.p2 (d := k) (by omega) x)) rfl rfl (lo := none) (hi := some (k : Int))).trans ?_
  rw [cut_upto k (by rw [List.length_map, num_len]; omega), ← List.map_take]
  unfold num
  rw [List.take_left' (dig_len p k x)]
  rfl
theorem e_from (hp0 : 1 < p) (hp1 : p < 100) {l : List Int} (hl : l.length < 1000) : f_from_digits [ti l, .int p] = .ok (.int (ev l p)) := by
  refine fun_ok (.seq (.set (d := .int 0) rfl ⟨_, rfl, .seq (.for (fun i ρ => ρ = [.sh (ti l), .sh (.int p), .sh (.int (ev (l.drop (l.length - i)) p)), .no]) (xs := (l.map D.int).reverse) rfl ?_ ?_ ?_)⟩))
  · rw [Nat.sub_zero, List.drop_length]
    rfl
  · rintro i x ρ hx rfl
    obtain ⟨hi, rfl⟩ := rev_ints hx
    refine ⟨_, rfl, .seq (.set (d := .int (ev (l.drop (l.length - (i + 1))) p)) (vBin (vBin rfl rfl (mul_ii (.inr (sm64 hp0 hp1)))) rfl ?_) ⟨_, rfl, .no (.skip ⟨_, rfl, rfl⟩)⟩)⟩
    rw [ev_back hi]
    show R.ok (D.int _) = _
    congr 2
    rw [Int.mul_comm]
    omega
  · rintro ρ rfl
    rw [List.length_reverse, li_len, Nat.sub_self, List.drop_zero]
    exact ⟨_, rfl, .ret rfl rfl⟩
theorem e_pprod (hp0 : 1 < p) (hp1 : p < 100) {a b : List Int} (ra : Rd p a) (rb : Rd p b) (hla : a.length < 1000) (hlb : b.length < 1000) :
    ∃ F, f_polynomial_product [.int p, ti a, ti b] = .ok (ti (trim F)) ∧ F.length = a.length + b.length ∧ Rd p F ∧ ∃ h, ∀ t, ev a t * ev b t = ev F t + p * ev h t := by
  have key : ∃ o, (∃ F, o = .ret (ti (trim F)) ∧ F.length = a.length + b.length ∧ Rd p F ∧ ∃ h, ∀ t, ev a t * ev b t = ev F t + p * ev h t) ∧ f_polynomial_product [.int p, ti a, ti b] = endM o := by
    refine fun_go (.seq (.own (ds := (List.replicate (a.length + b.length) 0).map D.int) ?_ ⟨_, rfl, .seq
      (.for (fun i ρ => ∃ F, ρ = [.sh (.int p), .sh (ti a), .sh (ti b), .ow (F.map D.int), .no, .no, .no, .no] ∧ F.length = a.length + b.length ∧ Rd p F ∧ ∃ h, ∀ t, ev (a.take i) t * ev b t = ev F t + p * ev h t) (xs := enumD (a.map D.int)) rfl ?_ ?_ ?_)⟩))
    · rw [List.map_replicate]
      exact vMulL rfl (vBin (vBi (v1 rfl) (len_ti a)) (vBi (v1 rfl) (len_ti b)) (add_nn _ _)) (by omega)
    · exact ⟨_, rfl, List.length_replicate, rd_zeros (by omega) _, [], fun t => by rw [ev_zeros]; simp [ev]⟩
    · rintro i y ρ hy ⟨F, rfl, lF, rF, h, e⟩
      obtain ⟨hi, rfl⟩ := en_ints hy
      have ai := ra.co (show 0 < p by omega) i
      refine ⟨_, rfl, .seq (.for (fun j ρ => ∃ F, ρ = [.sh (.int p), .sh (ti a), .sh (ti b), .ow (F.map D.int), .sh (.int (i : Nat)), .sh (.int (co a i)), .no, .no] ∧ F.length = a.length + b.length ∧ Rd p F ∧ ∃ h, ∀ t, ev (a.take i) t * ev b t + t ^ i * co a i * ev (b.take j) t = ev F t + p * ev h t) (xs := enumD (b.map D.int)) rfl ⟨F, rfl, lF, rF, h, fun t => by rw [← e t]; simp [ev]⟩ ?_ ?_)⟩
      · rintro j z ρ hz ⟨F, rfl, lF, rF, h, e⟩
        obtain ⟨hj, rfl⟩ := en_ints hz
        have v0 := Int.emod_nonneg (co F (i + j) + co a i * co b j) (show p ≠ 0 by omega)
        have v1' := Int.emod_lt_of_pos (co F (i + j) + co a i * co b j) (show 0 < p by omega)
        have vd := Int.emod_add_mul_ediv (co F (i + j) + co a i * co b j) p
        refine ⟨_, rfl, .seq (.store (v := .int ((co F (i + j) + co a i * co b j) % p)) (j := ((i + j : Nat) : Int)) (n := i + j) rfl ?_ (vBin rfl rfl (add_nn i j)) (ixN_nat (by rw [li_len]; omega)) ⟨_, rfl, .no (.no (.skip ⟨_, rfl, F.set (i + j) ((co F (i + j) + co a i * co b j) % p), ?_, by rw [List.length_set]; exact lF, rd_set rF v0 v1', add h (mono (i + j) ((co F (i + j) + co a i * co b j) / p)), fun t => ?_⟩))⟩)⟩
        · exact vBin (vBin (vBin rfl (vBin rfl rfl (add_nn i j)) (ix_li (by omega))) (vBin rfl rfl (mul_ii (.inl (sm_rd ai.1 ai.2 hp1)))) rfl) rfl (mod_ii (by omega))
        · rw [map_set F]
          rfl
        · have y := e t
          rw [ev_take_succ hj, ev_set _ _ _ _ (by omega), ev_add, ev_mono, Int.pow_add]
          have : (co F (i + j) + co a i * co b j) % p = co F (i + j) + co a i * co b j - p * ((co F (i + j) + co a i * co b j) / p) := by omega
          rw [this]
          grind
      · rintro ρ ⟨F, rfl, lF, rF, h, e⟩
        rw [enumD_len, li_len, List.take_length] at e
        refine ⟨_, rfl, .no (.no (.no (.no (.skip ⟨_, rfl, F, rfl, lF, rF, h, fun t => ?_⟩))))⟩
        rw [← e t, ev_take_succ hi]
        grind
    · rintro ρ ⟨F, rfl, lF, rF, h, e⟩
      rw [enumD_len, li_len, List.take_length] at e
      exact ⟨_, rfl, .frz rfl (.ret (d := ti (trim F)) (vCall (v1 rfl) rfl (e_trimmed (by omega))) ⟨F, rfl, lF, rF, h, e⟩)⟩
  obtain ⟨o, ⟨F, rfl, r⟩, e⟩ := key
  exact ⟨F, e, r⟩
theorem trim_len : ∀ l : List Int, (trim l).length ≤ l.length
  | [] => Nat.le_refl _
  | a :: l => by
    have ih := trim_len l
    unfold trim
    split
    · simp
    · rw [List.length_cons, List.length_cons]; omega
theorem e_mult (w : Wd p k fl) (rest : List D) (x y : Int) : f_Field__multiplied [ob p k fl rest, .int x, .int y] = .ok (.int (mm p k fl x y)) := by
  have hk := k_small w
  obtain ⟨F, eF, lF, rF, h, e⟩ := e_pprod w.p1 w.p2 (dig_rd w.p0 k x) (dig_rd w.p0 k y) (by rw [dig_len]; omega) (by rw [dig_len]; omega)
  rw [dig_len, dig_len] at lF
  have lt := trim_len F
  obtain ⟨q, r, er, dv⟩ := e_rest (p := p) (a := trim F) (g := fl ++ [1]) (m := k) w.p1 w.p2 (trim_rd rF) w.mo.rd w.len w.top (by omega) (by omega)
  have lr := trim_len r
  have rl := dv.rl
  refine fun_ok (.seq (.set (d := ti (trim F)) (vCall (vCons (vUn rfl rfl) (vCons (vCall (vCons rfl (vCons (vUn rfl rfl) (v1 (vUn rfl rfl)))) rfl (e_digits w x)) (v1 (vCall (vCons rfl (vCons (vUn rfl rfl) (v1 (vUn rfl rfl)))) rfl (e_digits w y))))) rfl eF) ⟨_, rfl, .ret (d := .int (mm p k fl x y)) (vCall (v2 (vBin (vCall (vCons (vUn rfl rfl) (vCons rfl (v1 (vUn rfl rfl)))) rfl er) rfl rfl) (vUn rfl rfl)) rfl ?_) rfl⟩))
  refine (e_from w.p1 w.p2 (l := trim r) (by omega)).trans ?_
  have ze := dv.end
  have e0 : ∀ t, ev (trim r) t = ev (pad k r) t := fun t => by rw [trim_ev, pad_ev ze]
  obtain ⟨e1, e2⟩ := ev_el (k := k) w.p0 (pad_rd w.p0 dv.rr) (pad_len k r)
  have key : mm p k fl x y = ev (pad k r) p := mm_uniq w e1 (by
    rw [e2]
    obtain ⟨h2, e3⟩ := dv.e
    refine ⟨q, add h h2, fun t => ?_⟩
    have e4 := e3 t
    rw [trim_ev] at e4
    rw [ev_mul, e t, ev_add, pad_ev ze]
    grind)
  rw [e0, key]
theorem e_powers (w : Wd p k fl) (rest : List D) (m : Int) (hl : (orow (mm p k fl) m 60 m).length < 60) : f_Field__powers_from [ob p k fl rest, .int m] = .ok (ti (prow (mm p k fl) m)) := by
  refine fun_ok (.seq (.par2 (x := .ow [.int 1]) (y := .sh (.int m)) rfl rfl ⟨_, rfl, .seq (.while (fun n ρ => ∃ acc u, ρ = [.sh (ob p k fl rest), .sh (.int m), .ow (acc.map D.int), .sh (.int u)] ∧ prow (mm p k fl) m = acc ++ orow (mm p k fl) m n u ∧ (orow (mm p k fl) m n u).length < n ∧ acc.length + n < 1000) 60 ⟨[1], m, rfl, rfl, hl, by decide⟩ ?_ ?_)⟩))
  · rintro n ρ ⟨acc, u, rfl, e1, e2, e3⟩
    refine ⟨!decide (u = 1), vTb (vBin rfl rfl (ne_ii u 1)), fun hc => ?_⟩
    have hu : u ≠ 1 := by simpa using hc
    obtain ⟨j, rfl⟩ : ∃ j, n = j + 1 := ⟨n - 1, by omega⟩
    rw [orow, if_neg hu] at e1 e2
    refine .seq (.app (d := .int u) rfl rfl (by rw [li_len]; omega) ⟨_, rfl, .set (d := .int (mm p k fl u m)) (vMeth (o := ob p k fl rest) rfl rfl (v2 rfl rfl) rfl (e_mult w rest u m)) ⟨_, j, rfl, Nat.lt_succ_self j, acc ++ [u], mm p k fl u m, ?_, by rw [e1]; simp, ?_, ?_⟩⟩)
    · rw [List.map_append]
      rfl
    · rw [List.length_cons] at e2
      omega
    · rw [List.length_append]
      show acc.length + 1 + j < 1000
      omega
  · rintro ρ n ⟨acc, u, rfl, e1, e2, e3⟩ hf
    rw [show mTb (mBin dNe (mVarB 3) (mC (.int 1))) [.sh (ob p k fl rest), .sh (.int m), .ow (acc.map D.int), .sh (.int u)] = .ok (!decide (u = 1)) from vTb (vBin rfl rfl (ne_ii u 1))] at hf
    have hu : u = 1 := by
      have := R.ok.inj hf
      simpa using this
    subst hu
    have e4 : orow (mm p k fl) m n 1 = [] := by
      cases n with
      | zero => rfl
      | succ j => rw [orow, if_pos rfl]
    rw [e4, List.append_nil] at e1
    refine ⟨_, rfl, .ret (d := ti (prow (mm p k fl) m)) ?_ rfl⟩
    rw [e1]
    rfl
end
end K05
end Y
/-! # Q7 -/
set_option Elab.async false
set_option linter.all false
set_option maxRecDepth 100000
set_option maxHeartbeats 4000000
namespace Y
open Po
section
variable {P : Out → Prop} {ρ : Rho} {i n j : Nat}
theorem Go.self {m : Rho → R D} {d : D} {ds es : List D} (h : m ρ = .ok d) (e : ρ[i]? = some (.me n ds)) (nm : noMe (ρ.set i .no) = true) (hl : ds.length < 900) (hp : putA ds j d = .ok es) (k : P (.next (ρ.set i (.me n es)))) : Go (mSelf i n j m) ρ P := ⟨_, by
  unfold mSelf
  rw [h, lift_ok, e]
  show R.grd (n = n ∧ noMe (ρ.set i .no) = true ∧ ds.length < 900) _ = _
  rw [grd_ok ⟨rfl, nm, hl⟩, hp, lift_ok], k⟩
theorem Go.selfAdd {m : Rho → R D} {a b : Int} {ds es : List D} (e : ρ[i]? = some (.me n ds)) (nm : noMe (ρ.set i .no) = true) (hl : ds.length < 900) (hd : getD ds j = .ok (.int a)) (h : m ρ = .ok (.int b)) (hp : putA ds j (.int (a + b)) = .ok es) (k : P (.next (ρ.set i (.me n es)))) : Go (mSelfAdd i n j m) ρ P := ⟨_, by
  unfold mSelfAdd
  rw [e]
  show R.grd (n = n ∧ noMe (ρ.set i .no) = true ∧ ds.length < 900) _ = _
  rw [grd_ok ⟨rfl, nm, hl⟩, hd, lift_ok, h, lift_ok]
  show lift ρ (putA ds j (.int (a + b))) _ = _
  rw [hp, lift_ok], k⟩
theorem vMethS {a : Nat} {m : List D → R D} {ma : Rho → R (List D)} {ds es : List D} {d : D} (e : ρ[i]? = some (.me n ds)) (h : ma ρ = .ok es) (hl : es.length + 1 = a) (hm : m (.obj n ds :: es) = .ok d) (hb : d.bare = true) : mMethS i n a m ma ρ = .ok d := by
  unfold mMethS
  rw [e]
  show R.grd (n = n) _ = _
  rw [grd_ok rfl, h, R.bind_ok, grd_ok hl, hm, R.nb_ok, grd_ok hb]
theorem init_go {N a : Nat} {mb : Rho → R Out} {ds es : List D} (h : Go mb (.me n [] :: (ds.map Sl.sh ++ List.replicate (N - a) Sl.no)) fun o => endI n o = .ok es) : mInit n N a mb ds = .ok es := by
  obtain ⟨o, e, h⟩ := h
  unfold mInit
  rw [e, R.nb_ok, h]
end
theorem bareL_ints : ∀ l : List Int, D.bareL (l.map D.int) = true
  | [] => rfl
  | a :: l => by
    rw [List.map_cons]
    unfold D.bareL D.bare
    rw [bareL_ints l]
    rfl
theorem bare_ti (l : List Int) : (ti l).bare = true := by
  unfold ti D.bare
  exact bareL_ints l
theorem isi_int (i : Int) : dIsi "int" (.int i) = .ok (.bl true) := by
  have h : L2.kitB "int" "int" = some true := by decide +kernel
  show (match L2.kitB "int" "int" with | some b => R.ok (D.bl b) | none => .stuck) = _
  rw [h]
theorem isi_intb (i : Int) : dIsi "bool" (.int i) = .ok (.bl false) := by
  have h : L2.kitB "int" "bool" = some false := by decide +kernel
  show (match L2.kitB "int" "bool" with | some b => R.ok (D.bl b) | none => .stuck) = _
  rw [h]
theorem isi2_tup (l : List D) : dIsi2 "list" "tuple" (.tup l) = .ok (.bl true) := by
  have h1 : L2.kitB "tuple" "list" = some false := by decide +kernel
  have h2 : L2.kitB "tuple" "tuple" = some true := by decide +kernel
  show (match L2.kitB "tuple" "list", L2.kitB "tuple" "tuple" with | some b, some c => R.ok (D.bl (b || c)) | _, _ => .stuck) = _
  rw [h1, h2]
  rfl
theorem vAndV {ρ : Rho} {a b : Rho → R D} {z : D} (h : a ρ = .ok (.bl true)) (h2 : b ρ = .ok z) : mAndV a b ρ = .ok z := by
  unfold mAndV
  rw [h]
  exact h2
theorem vNotV {ρ : Rho} {a : Rho → R D} {c : Bool} (h : a ρ = .ok (.bl c)) : mNotV a ρ = .ok (.bl (!c)) := by
  unfold mNotV
  rw [h]
  rfl
theorem vChain {ρ : Rho} {f g : D → D → R D} {a b c : Rho → R D} {x y z w : D} (ha : a ρ = .ok x) (hb : b ρ = .ok y) (hf : f x y = .ok (.bl true)) (hc : c ρ = .ok z) (hg : g y z = .ok w) : mChain f g a b c ρ = .ok w := by
  unfold mChain
  rw [ha, R.bind_ok, hb, R.bind_ok, hf, R.bind_ok]
  show (c ρ).bind (fun w => g y w) = _
  rw [hc, R.bind_ok, hg]
theorem le_ii (i j : Int) : dLe (.int i) (.int j) = .ok (.bl (decide (i ≤ j))) := rfl
theorem lt_ii (i j : Int) : dLt (.int i) (.int j) = .ok (.bl (decide (i < j))) := rfl
theorem gt_ii (i j : Int) : dGt (.int i) (.int j) = .ok (.bl (decide (j < i))) := rfl
namespace K05
theorem e_integer (i : Int) : f_is_integer [.int i] = .ok (.bl true) := fun_ok (.ret (d := .bl true) (vAndV (vUn rfl (isi_int i)) (vNotV (vUn rfl (isi_intb i)))) rfl)
theorem prime_rests : ∀ p ∈ primes, 2 ≤ p ∧ p ≤ 47 ∧ ∀ l ∈ List.range 7, 2 ≤ l → l * l ≤ p → p % l ≠ 0 := by decide +kernel
theorem e_isprime0 {p : Nat} (h : p ∈ primes) : f_is_prime [.int p] = .ok (.bl true) := by
  obtain ⟨p2, p47, pr⟩ := prime_rests p h
  refine fun_ok (.seq (.ifF (vTb (vBin rfl rfl ?_)) (.skip ⟨_, rfl, .seq (.set (d := .int 2) rfl ⟨_, rfl, .seq (.while (fun n ρ => ∃ l : Nat, ρ = [.sh (.int p), .sh (.int l)] ∧ 2 ≤ l ∧ l + n = 9 ∧ (l - 1) * (l - 1) ≤ p) 7 ⟨2, rfl, by omega, rfl, by omega⟩ ?_ ?_)⟩)⟩)))
  · rw [lt_ii, decide_eq_false (by omega)]
  · rintro n ρ ⟨l, rfl, l2, ln, lp⟩
    have l8 : l ≤ 8 := by
      have : l - 1 ≤ 6 := by
        rcases Nat.lt_or_ge 6 (l - 1) with z | z
        · have := Nat.mul_le_mul z z; omega
        · exact z
      omega
    have em : dMul (.int (l : Nat)) (.int (l : Nat)) = .ok (.int ((l * l : Nat) : Int)) := by
      rw [mul_ii (.inl ⟨by omega, by omega⟩), Int.natCast_mul]
    refine ⟨decide (((l * l : Nat) : Int) ≤ (p : Nat)), vTb (vBin (vBin rfl rfl em) rfl (le_ii _ _)), fun hc => ?_⟩
    have hle : l * l ≤ p := by have := of_decide_eq_true hc; omega
    have l6 : l ≤ 6 := by
      rcases Nat.lt_or_ge 6 l with z | z
      · have := Nat.mul_le_mul z z; omega
      · exact z
    have ne := pr l (List.mem_range.mpr (by omega)) l2 hle
    refine .seq (.ifF (vTb (vBin (vBin rfl rfl (mod_ii (by omega))) rfl ((eq_ii _ _).trans ?_))) (.skip ⟨_, rfl, .aug rfl rfl (iadd1 l) ⟨_, n - 1, rfl, by omega, l + 1, rfl, by omega, by omega, by rw [Nat.add_sub_cancel]; exact hle⟩⟩))
    have ne2 : ¬ ((p : Nat) : Int) % ((l : Nat) : Int) = 0 := fun z => ne (by
      have e : ((p % l : Nat) : Int) = 0 := by rw [Int.natCast_emod]; exact z
      omega)
    rw [decide_eq_false ne2]
  · rintro ρ n ⟨l, rfl, _⟩ _
    exact ⟨_, rfl, .ret rfl rfl⟩
theorem e_small {p : Nat} (h : p ∈ primes) : f_is_small_prime [.int p] = .ok (.bl true) := by
  obtain ⟨p2, p47, _⟩ := prime_rests p h
  refine fun_ok (.ret (d := .bl true) (vAndV (vCall (v1 rfl) rfl (e_integer p)) (vAndV (vBin rfl rfl ?_) (vCall (v1 rfl) rfl (e_isprime0 h)))) rfl)
  have h49 : ((p : Nat) : Int) ≤ 49 := by omega
  rw [le_ii, decide_eq_true h49]
theorem e_below {c p : Int} (h0 : 0 ≤ c) (h1 : c < p) : f_is_below [.int c, .int p] = .ok (.bl true) := by
  refine fun_ok (.ret (d := .bl true) (vAndV (vCall (v1 rfl) rfl (e_integer c)) (vChain rfl rfl ?_ rfl ?_)) rfl)
  · rw [le_ii, decide_eq_true h0]
  · rw [lt_ii, decide_eq_true h1]
theorem e_sequence (l : List D) : f_is_sequence [.tup l] = .ok (.bl true) := fun_ok (.ret (d := .bl true) (vUn rfl (isi2_tup l)) rfl)
section
variable {p : Int} {k : Nat} {fl : List Int}
theorem e_wrong (w : Wd p k fl) (irr : Irr p (fl ++ [1])) : f_wrong_modulus [.int p, ti (fl ++ [1])] = .ok .non := by
  have hk := k_small w
  have lw := w.len
  have hp1 := w.p1
  obtain ⟨L, eL, fin⟩ := e_factors w.p1 w.p2 w.mo (by omega) (by rw [lw, Nat.add_sub_cancel]; have := w.q2; omega)
  have eL1 := (fin.alone w.p1 w.mo (by rw [lw]; have := w.k1; omega)).mpr irr
  subst eL1
  refine fun_ok (.seq (.ifF (vNot (vTt (vCall (v1 rfl) rfl (e_sequence _)))) (.skip ⟨_, rfl, .seq (.set (d := .int 1) rfl ⟨_, rfl, .seq (.for (fun i ρ => ρ = [.sh (.int p), .sh (ti (fl ++ [1])), .sh (.int (p ^ i)), .no, .no]) (xs := enumD ((fl ++ [1]).map D.int)) rfl (by rw [Int.pow_zero]; rfl) ?_ ?_)⟩)⟩)))
  · rintro i z ρ hz rfl
    obtain ⟨hi, rfl⟩ := en_ints hz
    have rd := w.mo.rd.co w.p0 i
    have pi : p ^ i ≤ 49 := Int.le_trans (K05.pow_mono w.p1 (by omega)) w.q2
    refine ⟨_, rfl, .seq (.ifF (vOr (vNot (vTt (vCall (v2 rfl rfl) rfl (e_below rd.1 rd.2)))) (vOr (vTb (vBin rfl rfl ((gt_ii _ _).trans ?_))) ?_)) (.skip ⟨_, rfl, .seq (.aug rfl rfl (grd_ok (p := small64 _ ∨ small64 p) (.inr (sm64 w.p1 w.p2))) ⟨_, rfl, .no (.no (.skip ⟨_, rfl, ?_⟩))⟩)⟩))⟩
    · rw [decide_eq_false (by omega)]
    · by_cases hik : i = k
      · subst hik
        refine (vAnd (c := false) (vTb (vBin rfl (vBin (vBi (v1 rfl) (len_ti _)) rfl (sub1 lw)) ((eq_ii _ _).trans ?_))) (vTb (vBin rfl rfl ((ne_ii _ _).trans ?_))))
        · rw [decide_eq_true rfl]
        · rw [w.top, decide_eq_true rfl]
          rfl
      · refine vAndF (vTb (vBin rfl (vBin (vBi (v1 rfl) (len_ti _)) rfl (sub1 lw)) ((eq_ii _ _).trans ?_)))
        rw [decide_eq_false (by omega)]
    · rw [Int.pow_succ]
      rfl
  · rintro ρ rfl
    refine ⟨_, rfl, .seq (.ifF (vOr (vTb (vBin (vBi (v1 rfl) (len_ti _)) rfl ((lt_ii _ _).trans ?_))) (vTb (vBin (vBi (v1 (vCall (v2 rfl rfl) rfl eL)) rfl) rfl ((gt_ii _ _).trans ?_)))) (.skip ⟨_, rfl, .ret rfl rfl⟩))⟩
    · have h2 : ¬ (((fl ++ [1]).length : Nat) : Int) < 2 := by rw [lw]; have := w.k1; omega
      rw [decide_eq_false h2]
    · rw [decide_eq_false (by simp)]
end
end K05
end Y
/-! # Q8 -/
set_option Elab.async false
set_option linter.all false
set_option maxRecDepth 100000
set_option maxHeartbeats 4000000
namespace Y
open Po
theorem init_go2 {n N a : Nat} {mb : Rho → R Out} {ds : List D} {Q : List D → Prop} (h : Go mb (.me n [] :: (ds.map Sl.sh ++ List.replicate (N - a) Sl.no)) fun o => ∃ es, endI n o = .ok es ∧ Q es) : ∃ es, mInit n N a mb ds = .ok es ∧ Q es := by
  obtain ⟨o, e, es, h, q⟩ := h
  refine ⟨es, ?_, q⟩
  unfold mInit
  rw [e, R.nb_ok, h]
/-- a list of naturals as ints -/
def il (L : List Nat) : List Int := L.map fun (i : Nat) => (i : Int)
theorem il_len (L : List Nat) : (il L).length = L.length := List.length_map ..
theorem il_co {L : List Nat} {i : Nat} (h : i < L.length) : co (il L) i = ((L[i]'h : Nat) : Int) := by
  rw [co_get (by rw [il_len]; exact h)]
  unfold il
  rw [List.getElem_map]
/-- the places of the powers -/
structure Tb (L : List Nat) (M : List Int) (q : Nat) : Prop where
  len : M.length = q
  at_ : ∀ x, x ∈ L → ∃ j, co M x = (j : Nat) ∧ L[j]? = some x
structure Fw (p k : Nat) (fl : List Int) (g : Nat) (L : List Nat) : Prop where
  w : Wd p k fl
  pr : p ∈ primes
  irr : K05.Irr p (fl ++ [1])
  gn : Gn (mm p k fl) (p ^ k) g L
def fA (p k : Nat) (fl : List Int) (g : Nat) (L : List Nat) (M : List Int) : List D := [.int p, ti (fl ++ [1]), .int k, .int ((p ^ k : Nat) : Int), .int g, ti (il L), ti M]
def fD (p k : Nat) (fl : List Int) (g : Nat) (L : List Nat) (M : List Int) : D := .obj 0 (fA p k fl g L M)
namespace K05
variable {p k g : Nat} {fl : List Int} {L : List Nat}
theorem q_le (w : Wd p k fl) : p ^ k ≤ 49 := by
  have h := w.q2
  rw [← Int.natCast_pow] at h
  omega
theorem e_init (h : Fw p k fl g L) : ∃ M, f_Field___init__ [.int p, ti (fl ++ [1])] = .ok (fA p k fl g L M) ∧ Tb L M (p ^ k) := by
  have w := h.w
  have hk := k_small w
  have gn := h.gn
  have q49 := q_le w
  have fin : ∀ m : Nat, 1 ≤ m → m ≤ g → (orow (mm p k fl) m 60 m).length < 60 := fun m m1 m2 => by
    by_cases e : m = g
    · rw [e]; exact gn.fin
    · exact (gn.less m m1 (by omega)).1
  have ln : ∀ m : Nat, 1 ≤ m → m < g → (prow (mm p k fl) m).length < p ^ k - 1 := fun m m1 m2 => by
    have := (gn.less m m1 m2).2
    unfold prow
    rw [List.length_cons]
    exact this
  have lg : (prow (mm p k fl) g).length = p ^ k - 1 := by
    rw [gn.row, List.length_map]
    exact gn.len
  have key : ∃ es, f_Field___init__ [.int p, ti (fl ++ [1])] = .ok es ∧ ∃ M, es = fA p k fl g L M ∧ Tb L M (p ^ k) := by
    refine init_go2 (.seq (.ifF (vNot (vTt (vCall (v1 rfl) rfl (e_small h.pr)))) (.skip ⟨_, rfl, .seq (.set (d := .non) (vCall (v2 rfl rfl) rfl (e_wrong w h.irr)) ⟨_, rfl, .seq (.ifF (vTb (vBin rfl rfl rfl)) (.skip ⟨_, rfl, ?_⟩))⟩)⟩)))
    refine .seq (.self (d := .int p) rfl rfl rfl (by simp) rfl ⟨_, rfl, .seq (.self (d := ti (fl ++ [1])) (vTupT rfl) rfl rfl (by simp) rfl ⟨_, rfl, .seq (.self (d := .int k) (vBin (vBi (v1 rfl) (len_ti _)) rfl (sub1 w.len)) rfl rfl (by simp) rfl ⟨_, rfl, .seq (.self (d := .int ((p ^ k : Nat) : Int)) (vCall (v2 rfl rfl) rfl ?_) rfl rfl (by simp) rfl ⟨_, rfl, ?_⟩)⟩)⟩)⟩)
    · rw [Int.natCast_pow]
      exact e_power w.p1 w.p2 (by omega)
    refine .seq (.self (d := .int (1 : Nat)) rfl rfl rfl (by simp) rfl ⟨_, rfl, .seq (.self (d := ti (prow (mm p k fl) (1 : Nat))) (vMethS rfl rfl rfl (e_powers w [.int ((p ^ k : Nat) : Int), .int (1 : Nat)] (1 : Nat) (fin 1 (Nat.le_refl 1) gn.g1)) (bare_ti _)) rfl rfl (by simp) rfl ⟨_, rfl, ?_⟩)⟩)
    refine .seq (.while (fun n ρ => ∃ m : Nat, ρ = [.me 0 [.int p, ti (fl ++ [1]), .int k, .int ((p ^ k : Nat) : Int), .int m, ti (prow (mm p k fl) m)], .sh (.int p), .sh (ti (fl ++ [1])), .sh .non, .no, .no] ∧ 1 ≤ m ∧ m + n = g) (g - 1) ⟨1, rfl, Nat.le_refl 1, by have := gn.g1; omega⟩ ?_ ?_)
    · rintro n ρ ⟨m, rfl, m1, mg⟩
      refine ⟨_, vTb (vBin (vBi (v1 rfl) (len_ti _)) (vBin rfl rfl rfl) (lt_ii _ _)), fun hc => ?_⟩
      have hc := of_decide_eq_true hc
      have mlt : m < g := by
        rcases Nat.lt_or_ge m g with z | z
        · exact z
        · have e : m = g := by omega
          rw [e, lg] at hc
          omega
      refine .seq (.selfAdd (a := m) (b := 1) rfl rfl (by simp) rfl rfl rfl ⟨_, rfl, ?_⟩)
      refine .self (d := ti (prow (mm p k fl) (m + 1 : Nat))) (vMethS rfl (v1 rfl) rfl (e_powers w [.int ((p ^ k : Nat) : Int), .int (m + 1 : Nat), ti (prow (mm p k fl) m)] (m + 1 : Nat) (fin (m + 1) (by omega) mlt)) (bare_ti _)) rfl rfl (by simp) rfl ⟨_, n - 1, rfl, by omega, m + 1, rfl, by omega, by omega⟩
    · rintro ρ n ⟨m, rfl, m1, mg⟩ hf
      have hf2 := (show _ = R.ok (decide (((prow (mm p k fl) m).length : Int) < ((p ^ k : Nat) : Int) - 1)) from vTb (vBin (vBi (v1 rfl) (len_ti _)) (vBin rfl rfl rfl) (lt_ii _ _))).symm.trans hf
      have hf3 := of_decide_eq_false (R.ok.inj hf2)
      have e : m = g := by
        rcases Nat.lt_or_ge m g with z | z
        · have := ln m m1 z
          omega
        · omega
      subst e
      refine ⟨_, rfl, ?_⟩
      rw [gn.row]
      refine .seq (.own (ds := (List.replicate (p ^ k) 0).map D.int) ?_ ⟨_, rfl, ?_⟩)
      · rw [List.map_replicate]
        exact vMulL rfl rfl (by omega)
      refine .seq (.for (fun i ρ => ∃ M s, ρ = [.me 0 [.int p, ti (fl ++ [1]), .int k, .int ((p ^ k : Nat) : Int), .int m, ti (il L)], .sh (.int p), .sh (ti (fl ++ [1])), s, .ow (M.map D.int), .no] ∧ (s = .no ∨ s = .sh .non) ∧ M.length = p ^ k ∧ ∀ x, x ∈ L.take i → ∃ j, co M x = (j : Nat) ∧ L[j]? = some x) (xs := enumD ((il L).map D.int)) rfl ⟨List.replicate (p ^ k) 0, .sh .non, rfl, .inr rfl, List.length_replicate, fun x hx => by simp at hx⟩ ?_ ?_)
      · rintro i z ρ hz ⟨M, s, rfl, hs, lM, hM⟩
        obtain ⟨hi, rfl⟩ := en_ints hz
        rw [il_len] at hi
        have hr := gn.rng _ (List.getElem_mem hi)
        refine ⟨_, rfl, .seq (.store (v := .int (i : Nat)) (j := co (il L) i) (n := L[i]) rfl rfl rfl (by rw [il_co hi, li_len]; exact ixN_nat (by omega)) ⟨_, rfl, .no (.no (.skip ⟨_, rfl, M.set L[i] (i : Nat), .no, ?_, .inl rfl, by rw [List.length_set]; exact lM, fun x hx => ?_⟩))⟩)⟩
        · rw [map_set M]
          rfl
        · rw [co_set _ (by omega)]
          by_cases e : x = L[i]
          · rw [if_pos e]
            exact ⟨i, rfl, by rw [e]; exact List.getElem?_eq_getElem hi⟩
          · rw [if_neg e]
            refine hM x ?_
            rw [List.take_succ_eq_append_getElem hi] at hx
            rcases List.mem_append.mp hx with y | y
            · exact y
            · exact absurd (List.mem_singleton.mp y) e
      · rintro ρ ⟨M, s, rfl, hs, lM, hM⟩
        rw [enumD_len, li_len, il_len, List.take_length] at hM
        rcases hs with rfl | rfl
        all_goals refine ⟨_, rfl, .self (d := ti M) (vTupL rfl) rfl rfl (by simp) rfl ⟨_, rfl, M, rfl, lM, hM⟩⟩
  obtain ⟨es, e, M, rfl, t⟩ := key
  exact ⟨M, e, t⟩
end K05
end Y
/-! # Q9 -/
set_option Elab.async false
set_option linter.all false
set_option maxRecDepth 100000
set_option maxHeartbeats 4000000
namespace Y
open Po
section
variable {p : Int} {k : Nat} {fl : List Int}
theorem orow_pw (w : Wd p k fl) (g : Int) : ∀ (n i : Nat), (orow (mm p k fl) g n (pw p k fl g i)).length < n →
    (∀ j x, (orow (mm p k fl) g n (pw p k fl g i))[j]? = some x → x = pw p k fl g (i + j)) ∧ pw p k fl g (i + (orow (mm p k fl) g n (pw p k fl g i)).length) = 1
  | 0, i, h => by cases h
  | n + 1, i, h => by
    rw [orow] at h ⊢
    by_cases e : pw p k fl g i = 1
    · rw [if_pos e]
      exact ⟨fun j x hx => by simp at hx, e⟩
    · rw [if_neg e] at h ⊢
      have eq : mm p k fl (pw p k fl g i) g = pw p k fl g (i + 1) := rfl
      rw [eq] at h ⊢
      obtain ⟨h1, h2⟩ := orow_pw w g n (i + 1) (by rw [List.length_cons] at h; omega)
      refine ⟨fun j x hx => ?_, ?_⟩
      · cases j with
        | zero => simp at hx; rw [Nat.add_zero]; exact hx.symm
        | succ j =>
          rw [List.getElem?_cons_succ] at hx
          rw [h1 j x hx]
          congr 1
          omega
      · rw [List.length_cons, ← h2]
        congr 1
        omega
end
section
variable {p k g : Nat} {fl : List Int} {L : List Nat} {M : List Int}
theorem Fw.qk (h : Fw p k fl g L) : ((p ^ k : Nat) : Int) = (p : Int) ^ k := Int.natCast_pow p k
theorem Fw.q2 (h : Fw p k fl g L) : 2 ≤ p ^ k ∧ p ^ k ≤ 49 := by
  have h1 := K05.pow_mono h.w.p1 h.w.k1
  rw [Int.pow_one, ← h.qk] at h1
  have := h.w.p1
  exact ⟨by omega, K05.q_le h.w⟩
theorem Fw.g_el (h : Fw p k fl g L) : El p k g := by
  have q2 := h.q2
  have e := h.qk
  have r := h.gn.row
  refine ⟨by omega, ?_⟩
  rw [← e]
  by_cases g1 : g = 1
  · rw [g1]; omega
  · have h2 : (prow (mm p k fl) g)[1]? = some (g : Int) := by
      rw [prow, List.getElem?_cons_succ, orow, if_neg (by omega)]
      rfl
    rw [r, List.getElem?_map] at h2
    cases z : L[1]? with
    | none => rw [z] at h2; cases h2
    | some v =>
      rw [z] at h2
      have h3 : (v : Int) = (g : Int) := Option.some.inj h2
      have h4 := (h.gn.rng v (List.mem_of_getElem? z)).2
      omega
theorem Fw.pows (h : Fw p k fl g L) : (∀ (j x : Nat), L[j]? = some x → (x : Int) = pw p k fl g j) ∧ pw p k fl g (p ^ k - 1) = 1 := by
  have w := h.w
  have gn := h.gn
  have e1 : pw p k fl g 1 = g := pw_one w h.g_el
  have hf := gn.fin
  rw [show orow (mm p k fl) g 60 g = orow (mm p k fl) g 60 (pw p k fl g 1) by rw [e1]] at hf
  obtain ⟨h1, h2⟩ := orow_pw w g 60 1 hf
  rw [e1] at h1 h2
  have hr := gn.row
  have hl : (prow (mm p k fl) g).length = p ^ k - 1 := by rw [hr, List.length_map]; exact gn.len
  unfold prow at hl
  rw [List.length_cons] at hl
  refine ⟨fun j x hx => ?_, ?_⟩
  · have h3 : (prow (mm p k fl) g)[j]? = some (x : Int) := by rw [hr, List.getElem?_map, hx]; rfl
    cases j with
    | zero =>
      rw [prow] at h3
      simp at h3
      rw [← h3]
      rfl
    | succ j =>
      rw [prow, List.getElem?_cons_succ] at h3
      rw [h1 j _ h3, Nat.add_comm]
  · rw [← h2]
    congr 1
    omega
/-- the place of an element that is not 0 -/
theorem Fw.place (h : Fw p k fl g L) (t : Tb L M (p ^ k)) {x : Int} (hx : El p k x) (hz : x ≠ 0) : ∃ j : Nat, dIx (ti M) (.int x) = .ok (.int j) ∧ j < p ^ k - 1 ∧ x = pw p k fl g j := by
  have e := h.qk
  obtain ⟨n, rfl⟩ : ∃ n : Nat, x = n := ⟨x.toNat, by have := hx.1; omega⟩
  have hn := hx.2
  have hm := h.gn.all n (by omega) (by omega)
  obtain ⟨j, hj, hl⟩ := t.at_ n hm
  refine ⟨j, by rw [ix_ti (by rw [t.len]; omega), hj], ?_, (h.pows.1 j n hl)⟩
  have := (List.getElem?_eq_some_iff.mp hl).1
  rw [h.gn.len] at this
  exact this
theorem Fw.at_ (h : Fw p k fl g L) (n : Nat) : dIx (ti (il L)) (.int ((n % (p ^ k - 1) : Nat) : Int)) = .ok (.int (pw p k fl g n)) := by
  have q2 := h.q2
  have hlt : n % (p ^ k - 1) < L.length := by rw [h.gn.len]; exact Nat.mod_lt _ (by omega)
  rw [ix_ti (by rw [il_len]; exact hlt), il_co hlt, h.pows.1 _ _ (List.getElem?_eq_getElem hlt), pw_mod h.w h.pows.2 n]
theorem Fw.sub (h : Fw p k fl g L) : dSub (.int ((p ^ k : Nat) : Int)) (.int 1) = .ok (.int ((p ^ k - 1 : Nat) : Int)) := by
  have q2 := h.q2
  exact sub1 (by omega)
end
theorem eqz_ne {x : Int} (h : x ≠ 0) : dEq (.int x) (.int 0) = .ok (.bl false) := by rw [eq_ii, decide_eq_false h]
theorem eqz_eq : dEq (.int 0) (.int 0) = .ok (.bl true) := by rw [eq_ii]; rfl
theorem gtz (x : Int) : dGt (.int x) (.int 0) = .ok (.bl (decide (0 < x))) := rfl
namespace K05
variable {p k g : Nat} {fl : List Int} {L : List Nat} {M : List Int}
theorem e_times (h : Fw p k fl g L) (t : Tb L M (p ^ k)) {x y : Int} (hx : El p k x) (hy : El p k y) : f_Field_times [fD p k fl g L M, .int x, .int y] = .ok (.int (mm p k fl x y)) := by
  have q2 := h.q2
  by_cases x0 : x = 0
  · subst x0
    rw [mm_zero h.w]
    exact fun_ok (.seqr (.ifT (vOrT (vTb (vBin rfl rfl eqz_eq))) (.ret rfl (.inr ⟨_, rfl, rfl⟩))))
  by_cases y0 : y = 0
  · subst y0
    rw [mm_comm h.w, mm_zero h.w]
    exact fun_ok (.seqr (.ifT (vOr (vTb (vBin rfl rfl (eqz_ne x0))) (vTb (vBin rfl rfl eqz_eq))) (.ret rfl (.inr ⟨_, rfl, rfl⟩))))
  obtain ⟨i, hi, li, ei⟩ := h.place t hx x0
  obtain ⟨j, hj, lj, ej⟩ := h.place t hy y0
  refine fun_ok (.seq (.ifF (vOr (vTb (vBin rfl rfl (eqz_ne x0))) (vTb (vBin rfl rfl (eqz_ne y0)))) (.skip ⟨_, rfl, .ret (d := .int (mm p k fl x y)) (vBin (vUn rfl rfl) (vBin (vBin (vBin (vUn rfl rfl) rfl hi) (vBin (vUn rfl rfl) rfl hj) (add_nn i j)) (vBin (vUn rfl rfl) rfl h.sub) (mod_ii (by omega))) ?_) rfl⟩)))
  rw [← Int.natCast_emod, h.at_, ← pw_add h.w, ← ei, ← ej]
theorem e_fpower (h : Fw p k fl g L) (t : Tb L M (p ^ k)) {x : Int} (hx : El p k x) (n : Nat) : f_Field_power [fD p k fl g L M, .int x, .int n] = .ok (.int (pw p k fl x n)) := by
  have q2 := h.q2
  by_cases n0 : n = 0
  · subst n0
    exact fun_ok (.seqr (.ifT (vOrT (vTb (vBin rfl rfl eqz_eq))) (.ret (vIfT (vTb (vBin rfl rfl eqz_eq)) rfl) (.inr ⟨_, rfl, rfl⟩))))
  have n1 : ((n : Nat) : Int) ≠ 0 := by omega
  by_cases x0 : x = 0
  · subst x0
    rw [pw_zero h.w (by omega)]
    exact fun_ok (.seqr (.ifT (vOr (vTb (vBin rfl rfl (eqz_ne n1))) (vTb (vBin rfl rfl eqz_eq))) (.ret (vIfF (vTb (vBin rfl rfl (eqz_ne n1))) rfl) (.inr ⟨_, rfl, rfl⟩))))
  obtain ⟨i, hi, li, ei⟩ := h.place t hx x0
  refine fun_ok (.seq (.ifF (vOr (vTb (vBin rfl rfl (eqz_ne n1))) (vTb (vBin rfl rfl (eqz_ne x0)))) (.skip ⟨_, rfl, .ret (d := .int (pw p k fl x n)) (vBin (vUn rfl rfl) (vBin (vBin (vBin (vUn rfl rfl) rfl hi) rfl (mul_ii (.inl ⟨by omega, by omega⟩))) (vBin (vUn rfl rfl) rfl h.sub) (mod_ii (by omega))) ?_) rfl⟩)))
  rw [← Int.natCast_mul, ← Int.natCast_emod, h.at_, ← pw_mul h.w, ← ei]
theorem pl_next (p : Int) (n : Nat) (x y : Int) : pl p (n + 1) x y = (x + y) % p + p * pl p n (x / p) (y / p) := by
  show (x % p + y % p) % p + p * pl p n (x / p) (y / p) = _
  rw [← Int.add_emod]
theorem mi_next (p : Int) (n : Nat) (x y : Int) : mi p (n + 1) x y = (x - y) % p + p * mi p n (x / p) (y / p) := by
  show (x % p - y % p) % p + p * mi p n (x / p) (y / p) = _
  rw [← Int.sub_emod]
theorem pl_zero (p : Int) : ∀ n, pl p n 0 0 = 0
  | 0 => rfl
  | n + 1 => by rw [pl_next, Int.zero_ediv, pl_zero p n]; simp
theorem mi_zero (p : Int) : ∀ n, mi p n 0 0 = 0
  | 0 => rfl
  | n + 1 => by rw [mi_next, Int.zero_ediv, mi_zero p n]; simp
theorem el_next {p : Int} (hp : 0 < p) {n : Nat} {x : Int} (h : El p (n + 1) x) : El p n (x / p) := by
  refine ⟨Int.ediv_nonneg h.1 (by omega), ?_⟩
  have := h.2
  rw [Int.pow_succ] at this
  exact Int.ediv_lt_of_lt_mul hp this
theorem el_0 {p : Int} {x : Int} (h : El p 0 x) : x = 0 := by
  have h1 := h.1
  have h2 := h.2
  rw [Int.pow_zero] at h2
  omega
theorem or_dec (x y : Int) : (decide (0 < x) || decide (0 < y)) = decide (0 < x ∨ 0 < y) := by simp
theorem vOrB {ρ : Rho} {s t : Rho → R Bool} {a b : Bool} (h : s ρ = .ok a) (h2 : t ρ = .ok b) : mOrT s t ρ = .ok (a || b) := by
  cases a with
  | true => exact vOrT h
  | false => exact vOr h h2
end K05
end Y
/-! # Q10 -/
set_option Elab.async false
set_option linter.all false
set_option maxRecDepth 100000
set_option maxHeartbeats 4000000
namespace Y
open Po PySem
theorem vMethK {ρ : Rho} {n : Nat} {π : List Nat} {a np nk : Nat} {m : List D → R D} {mo : Rho → R D} {ma mk : Rho → R (List D)} {o d : D} {ds es : List D} (h : mo ρ = .ok o) (h1 : isObj n o = true) (h2 : ma ρ = .ok ds) (h3 : mk ρ = .ok es) (hc : ds.length + 1 = np ∧ es.length = nk ∧ (pick π ((o :: ds) ++ es)).length = a) (hm : m (pick π ((o :: ds) ++ es)) = .ok d) : mMethK n π a np nk m mo ma mk ρ = .ok d := by
  unfold mMethK
  rw [h, R.bind_ok, grd_ok h1, h2, R.bind_ok, h3, R.bind_ok, grd_ok hc, hm]
theorem repr_int {i : Int} (h0 : 0 ≤ i) (h1 : i < 100) : dRepr [.int i] = .ok (.str (D.int i).py.shown) := by
  obtain ⟨a, b⟩ := shown_int h0 h1
  have e : repOk (.int i) = true := by
    unfold repOk
    have p1 : (D.int i).plain = true := by simp [D.plain]
    have p2 : (D.int i).py = PyData.int i := by unfold D.py; rfl
    have p3 : (PyData.int i).showable = true := by rw [PyData.showable]; exact decide_eq_true (log_small h0 h1)
    have p4 : (PyData.int i).depth = 0 := by rw [PyData.depth]
    rw [p1, p2, p3, p4, decide_eq_true (by omega), decide_eq_true (by omega)]
    rfl
  exact grd_ok e
theorem int_ok {i : Int} (h0 : 0 ≤ i) (h1 : i < 100) : PyData.strOk (D.int i).py.shown = true := by
  have p2 : (D.int i).py = PyData.int i := by unfold D.py; rfl
  rw [p2]
  exact (shown_int h0 h1).2
namespace K05
variable {p k g : Nat} {fl : List Int} {L : List Nat} {M : List Int}
theorem pw_sq (w : Wd p k fl) {b : Int} (hb : El p k b) : pw p k fl b 2 = mm p k fl b b := by
  show mm p k fl (pw p k fl b 1) b = _
  rw [pw_one w hb]
/-- one turn of the raising -/
theorem turn_odd (w : Wd p k fl) {a b : Int} (hb : El p k b) {t : Nat} (o : t % 2 = 1) : mm p k fl (mm p k fl a b) (pw p k fl (mm p k fl b b) (t / 2)) = mm p k fl a (pw p k fl b t) := by
  rw [mm_assoc w, ← pw_sq w hb, pw_mul w]
  congr 1
  rw [show mm p k fl b (pw p k fl b (2 * (t / 2))) = mm p k fl (pw p k fl b 1) (pw p k fl b (2 * (t / 2))) by rw [pw_one w hb], pw_add w]
  congr 1
  omega
theorem turn_even (w : Wd p k fl) {a b : Int} (hb : El p k b) {t : Nat} (o : t % 2 = 0) : mm p k fl a (pw p k fl (mm p k fl b b) (t / 2)) = mm p k fl a (pw p k fl b t) := by
  rw [← pw_sq w hb, pw_mul w]
  congr 2
  omega
theorem mm_onr (w : Wd p k fl) {a : Int} (ha : El p k a) : mm p k fl a 1 = a := by rw [mm_comm w]; exact mm_one w ha
theorem e_lraised (w : Wd p k fl) {x : Int} (hx : El p k x) {t : Nat} (ht : t < 2 ^ 64) : f_l_raised [wD p fl, .int x, .int t] = .ok (.int (pw p k fl x t)) := by
  refine fun_ok (.seq (.par2 (x := .sh (.int 1)) (y := .sh (.int x)) rfl rfl ⟨_, rfl, .seqr (.forR (fun i ρ => ∃ a b, ρ = [.sh (wD p fl), .sh (.int x), .sh (.int (t / 2 ^ i : Nat)), .no, .sh (.int a), .sh (.int b)] ∧ El p k a ∧ El p k b ∧ mm p k fl a (pw p k fl b (t / 2 ^ i)) = pw p k fl x t) (fun d => d = .int (pw p k fl x t)) (xs := rangeD 0 64 1) (r1 64 rfl (by decide)) ⟨1, x, by rw [Nat.pow_zero, Nat.div_one]; rfl, one_el w, hx, by rw [Nat.pow_zero, Nat.div_one]; exact mm_one w (pw_el w x t)⟩ ?_ ?_ ?_)⟩))
  · rintro i z ρ hz ⟨a, b, rfl, ha, hb, e⟩
    obtain ⟨rfl, hi⟩ := range_mem hz
    obtain ⟨s, es⟩ : ∃ s, s = t / 2 ^ i := ⟨_, rfl⟩
    have en : t / 2 ^ (i + 1) = s / 2 := by rw [Nat.pow_succ, ← Nat.div_div_eq_div_mul, es]
    rw [← es] at e ⊢
    have slt : s < 2 ^ 64 := by rw [es]; exact Nat.lt_of_le_of_lt (Nat.div_le_self _ _) ht
    have tst : mTb (mBin dEq (mBin dMod (mBi dInt (mCons (mVarB 2) mNil)) (mC (.int 2))) (mC (.int 1))) [.sh (wD p fl), .sh (.int x), .sh (.int (s : Nat)), .sh (.int (0 + (i : Int))), .sh (.int a), .sh (.int b)] = .ok (decide ((s : Int) % 2 = 1)) := vTb (vBin (vBin (vBi (v1 rfl) rfl) rfl (mod_ii (by decide))) rfl (eq_ii _ _))
    have key : ∃ a', Go (mIf (mTb (mBin dEq (mBin dMod (mBi dInt (mCons (mVarB 2) mNil)) (mC (.int 2))) (mC (.int 1)))) (mSet 4 (mCall 3 f_l_times (mCons (mVar 0) (mCons (mVar 4) (mCons (mVar 5) mNil))))) mSkip) [.sh (wD p fl), .sh (.int x), .sh (.int (s : Nat)), .sh (.int (0 + (i : Int))), .sh (.int a), .sh (.int b)] (fun o => o = .next [.sh (wD p fl), .sh (.int x), .sh (.int (s : Nat)), .sh (.int (0 + (i : Int))), .sh (.int a'), .sh (.int b)]) ∧ El p k a' ∧ mm p k fl a' (pw p k fl (mm p k fl b b) (s / 2)) = pw p k fl x t := by
      by_cases o : s % 2 = 1
      · have o2 : (s : Int) % 2 = 1 := by omega
        rw [decide_eq_true o2] at tst
        exact ⟨mm p k fl a b, .ifT tst (.set (d := .int (mm p k fl a b)) (vCall (vCons rfl (vCons rfl (v1 rfl))) rfl (e_ltimes w a b)) rfl), (mm_ok w a b).1, by rw [turn_odd w hb o, e]⟩
      · have o2 : ¬ (s : Int) % 2 = 1 := by omega
        rw [decide_eq_false o2] at tst
        exact ⟨a, .ifF tst (.skip rfl), ha, by rw [turn_even w hb (by omega), e]⟩
    obtain ⟨a', go, ha', e'⟩ := key
    obtain ⟨o, eo, rfl⟩ := go
    have e2 : dDiv (.int (s : Nat)) (.int 2) = .ok (.int ((s / 2 : Nat) : Int)) := by
      rw [Int.natCast_ediv]
      exact grd_ok (p := 0 < (2 : Int) ∧ (2 : Int) < 2 ^ 200) ⟨by decide, by decide⟩
    refine ⟨_, rfl, .seq ⟨_, eo, _, rfl, .seq (.par2 (x := .sh (.int (mm p k fl b b))) (y := .sh (.int ((s / 2 : Nat) : Int))) (vSh (vCall (vCons rfl (vCons rfl (v1 rfl))) rfl (e_ltimes w b b))) (vSh (vBin rfl rfl e2)) ⟨_, rfl, ?_⟩)⟩⟩
    by_cases z : s / 2 = 0
    · refine .seqr (.ifT (vTb (vBin rfl rfl ?_)) (.ret (d := .int (pw p k fl x t)) ?_ (.inr ⟨_, rfl, .inr ⟨_, rfl, rfl⟩⟩)))
      · rw [z]
        exact eqz_eq
      · show R.ok (D.int a') = _
        rw [← e', z]
        show _ = R.ok (D.int (mm p k fl a' 1))
        rw [mm_onr w ha']
    · refine .seq (.ifF (vTb (vBin rfl rfl (eqz_ne (by omega)))) (.skip ⟨_, rfl, .no (.skip (.inl ⟨_, rfl, a', mm p k fl b b, ?_, ha', (mm_ok w b b).1, ?_⟩))⟩))
      · rw [en]
        rfl
      · rw [en, e']
  · rintro ρ ⟨a, b, rfl, ha, hb, e⟩
    refine .inl ⟨_, rfl, .ret (d := .int (pw p k fl x t)) ?_ rfl⟩
    rw [rangeD_len, Nat.div_eq_of_lt ht] at e
    rw [← e]
    show _ = R.ok (D.int (mm p k fl a 1))
    rw [mm_onr w ha]
    rfl
  · rintro d rfl
    exact .inr ⟨_, rfl, rfl⟩
end K05
end Y
/-! # Q11 -/
set_option Elab.async false
set_option linter.all false
set_option maxRecDepth 100000
set_option maxHeartbeats 4000000
namespace Y
open Po PySem
theorem vOrVT {ρ : Rho} {a b : Rho → R D} (h : a ρ = .ok (.bl true)) : mOrV a b ρ = .ok (.bl true) := by
  unfold mOrV
  rw [h]
  rfl
theorem vOrVF {ρ : Rho} {a b : Rho → R D} {z : D} (h : a ρ = .ok (.bl false)) (h2 : b ρ = .ok z) : mOrV a b ρ = .ok z := by
  unfold mOrV
  rw [h]
  exact h2
/-- two texts of one element differ not -/
theorem ne_repr {ρ : Rho} {a b : Rho → R D} {i : Int} (h : a ρ = .ok (.int i)) (h2 : b ρ = .ok (.int i)) (h0 : 0 ≤ i) (h1 : i < 100) : mTb (mBin dNe (mBi dRepr (mCons a mNil)) (mBi dRepr (mCons b mNil))) ρ = .ok false :=
  vTb (vBin (vBi (v1 h) (repr_int h0 h1)) (vBi (v1 h2) (repr_int h0 h1)) (K05.str_self (int_ok h0 h1)).2)
theorem ne_reprT {ρ : Rho} {a b : Rho → R D} {l : List Int} (h : a ρ = .ok (ti l)) (h2 : b ρ = .ok (ti l)) (hl : Rd 100 l) (hs : l.length ≤ 1000) : mTb (mBin dNe (mBi dRepr (mCons a mNil)) (mBi dRepr (mCons b mNil))) ρ = .ok false :=
  vTb (vBin (vBi (v1 h) (K05.repr_ti hl hs)) (vBi (v1 h2) (K05.repr_ti hl hs)) (K05.str_self (ti_show hl).2.2.1).2)
namespace K05
variable {p k g : Nat} {fl : List Int} {L : List Nat} {M : List Int}
theorem el100 (w : Wd p k fl) {x : Int} (h : El p k x) : 0 ≤ x ∧ x < 100 := by
  have := w.q2
  exact ⟨h.1, by have := h.2; omega⟩
end K05
end Y
/-! # Q12 -/
set_option Elab.async false
set_option linter.all false
set_option maxRecDepth 100000
set_option maxHeartbeats 4000000
namespace Y
open Po PySem
/-! ### more of every way out -/
section
variable {ρ : Rho} {a b m : Rho → R D} {ma : Rho → R (List D)} {t : Rho → R Bool} {P : D → Prop} {n : Nat}
theorem aTb {Q : Bool → Prop} (h : Av (m ρ) fun d => ∃ c, d = .bl c ∧ Q c) : Av (mTb m ρ) Q := ⟨R.all_bind.mpr (R.all_imp (fun d z => by
  obtain ⟨c, rfl, q⟩ := z
  exact q) (fun _ z => z) h.h)⟩
theorem aIf (h : Av (t ρ) fun _ => True) (h1 : Av (a ρ) P) (h2 : Av (b ρ) P) : Av (mIfE t a b ρ) P := ⟨R.all_bind.mpr (R.all_imp (fun c _ => by
  cases c with
  | true => exact h1.h
  | false => exact h2.h) (fun _ z => z) h.h)⟩
theorem aTup (h : Av (ma ρ) fun ds => ds.length ≤ 16777216 ∧ P (.tup ds)) : Av (mTup ma ρ) P := ⟨R.all_bind.mpr (R.all_imp (fun ds z => R.all_grd.mpr z) (fun _ z => z) h.h)⟩
theorem aLst {Q : List D → Prop} (h : Av (ma ρ) fun ds => ds.length ≤ 16777216 ∧ Q ds) : Av (mLst ma ρ) Q := ⟨R.all_bind.mpr (R.all_imp (fun ds z => R.all_grd.mpr z) (fun _ z => z) h.h)⟩
theorem aFrz (h : Av (ma ρ) fun ds => P (.lst ds)) : Av (mFrz ma ρ) P := ⟨R.all_bind.mpr (R.all_imp (fun ds z => z) (fun _ z => z) h.h)⟩
theorem aNilA : Av (mNil ρ) (fun ds => ds.length = 0 ∧ ∀ d ∈ ds, P d) := aOk rfl ⟨rfl, fun d hd => absurd hd List.not_mem_nil⟩
theorem aConsA (h : Av (a ρ) P) (h2 : Av (ma ρ) (fun ds => ds.length = n ∧ ∀ d ∈ ds, P d)) : Av (mCons a ma ρ) (fun ds => ds.length = n + 1 ∧ ∀ d ∈ ds, P d) := aCons (h.imp fun x hx => h2.imp fun ds hd => ⟨by rw [List.length_cons, hd.1], fun d hd2 => by
  rcases List.mem_cons.mp hd2 with rfl | z
  · exact hx
  · exact hd.2 d z⟩)
theorem cLoop_av {bd : Bnd} {t : Rho → R Bool} {e : Rho → R D} {ρ : Rho} : ∀ xs : List D, (∀ x ∈ xs, ∃ ρ1, bd x ρ = some ρ1 ∧ t ρ1 = .ok true ∧ Av (e ρ1) P) → (cLoop bd t e ρ xs).all (fun ys => ys.length = xs.length ∧ ∀ y ∈ ys, P y) (fun _ => False)
  | [], _ => ⟨rfl, fun y hy => absurd hy List.not_mem_nil⟩
  | x :: xs, h => by
    obtain ⟨ρ1, h1, h2, h3⟩ := h x List.mem_cons_self
    have ih := cLoop_av xs fun y hy => h y (List.mem_cons_of_mem _ hy)
    unfold cLoop
    rw [h1]
    show ((t ρ1).nb _).all _ _
    rw [h2, R.nb_ok, if_pos rfl]
    refine R.all_nb.mpr (R.all_imp (fun d z => R.all_bind.mpr (R.all_imp (fun ds z2 => ?_) (fun _ z => z) ih)) (fun _ z => z) h3.h)
    refine ⟨by rw [List.length_cons, List.length_cons, z2.1], fun y hy => ?_⟩
    rcases List.mem_cons.mp hy with rfl | w
    · exact z
    · exact z2.2 y w
theorem aComp {own : List Nat} {mi : Rho → R (List D)} {bd : Bnd} {e : Rho → R D} {xs : List D} (h : mi ρ = .ok xs) (hl : xs.length ≤ 16777216) (h2 : ∀ x ∈ xs, ∃ ρ1, bd x (wipeR ρ own) = some ρ1 ∧ t ρ1 = .ok true ∧ Av (e ρ1) P) : Av (mComp own mi bd t e ρ) (fun ys => ys.length = xs.length ∧ ∀ y ∈ ys, P y) := ⟨by
  unfold mComp
  rw [h, R.bind_ok, grd_ok hl]
  exact cLoop_av xs h2⟩
theorem aSh {Q : Sl → Prop} (h : Av (m ρ) fun d => Q (.sh d)) : Av (mSh m ρ) Q := ⟨R.all_bind.mpr (R.all_imp (fun _ z => z) (fun _ z => z) h.h)⟩
end
section
variable {a b body : Rho → R Out} {ρ : Rho} {P : Out → Prop} {i j l : Nat}
theorem Al.own {m : Rho → R (List D)} (h : Av (m ρ) fun ds => P (.next (ρ.set i (.ow ds)))) : Al (mOwn i m) ρ P := ⟨R.all_bx.mpr (R.all_imp (fun _ z => z) (fun _ z => z.elim) h.h)⟩
theorem Al.frzS {d : D} (e : ρ[i]? = some (.sh d)) (h : Al a ρ P) : Al (mFrzS i a) ρ P := ⟨by
  unfold mFrzS
  rw [e]
  exact h.h⟩
theorem Al.asg {bd : Bnd} {m : Rho → R D} (h : Av (m ρ) fun d => ∃ ρ', bd d ρ = some ρ' ∧ P (.next ρ')) : Al (mAsg bd m) ρ P := ⟨R.all_bx.mpr (R.all_imp (fun d z => by
  obtain ⟨ρ', e, z⟩ := z
  show (match bd d ρ with | some _ => _ | none => _ : R Out).all _ _
  rw [e]
  exact z) (fun _ z => z.elim) h.h)⟩
theorem Al.par3 {ma mb mc : Rho → R Sl} (h : Av (ma ρ) fun x => Av (mb ρ) fun y => Av (mc ρ) fun z => P (.next (((ρ.set i x).set j y).set l z))) : Al (mPar3 i j l ma mb mc) ρ P := ⟨R.all_bx.mpr (R.all_imp (fun x h1 => R.all_bx.mpr (R.all_imp (fun y h2 => R.all_bx.mpr (R.all_imp (fun z h3 => h3) (fun _ z => z.elim) h2.h)) (fun _ z => z.elim) h1.h)) (fun _ z => z.elim) h.h)⟩
theorem Al.no (h : Al a (ρ.set i .no) P) : Al (mNo i a) ρ P := ⟨h.h⟩
/-- a loop over what was drawn -/
theorem Al.forA {mi : Rho → R (List D)} {bd : Bnd} (h : Av (mi ρ) fun xs => Al (mFor (fun _ => .ok xs) bd body) ρ P) : Al (mFor mi bd body) ρ P := ⟨R.all_bx.mpr (R.all_imp (fun xs z => z.h) (fun _ z => z.elim) h.h)⟩
end
theorem fun_al {N n : Nat} {mb : Rho → R Out} {ds : List D} {P : D → Prop} (h : Al mb (ds.map Sl.sh ++ List.replicate (N - n) Sl.no) fun o => ∃ d, endM o = .ok d ∧ P d) : Av (mFun N n mb ds) P := ⟨R.all_nb.mpr (R.all_imp (fun o z => by
  obtain ⟨d, e, q⟩ := z
  rw [e]
  exact q) (fun _ z => z) h.h)⟩
theorem al_ofD {ds : List D} (h0 : 0 < ds.length) (h1 : ds.length < 1000) : Av (K05.f_l_of [.deal, .lst ds]) fun d => d ∈ ds := by
  have e : K05.f_l_of [.deal, .lst ds] = R.draw ((ds.length : Nat) : Int) fun r => ((lift [.sh .deal, .sh (.lst ds)] (dIx (.lst ds) (.int r)) fun d => .ok (.ret d)).nb endM) := rfl
  constructor
  rw [e]
  refine ⟨⟨by omega, by omega⟩, fun r r0 r1 => ?_⟩
  obtain ⟨k, rfl⟩ : ∃ k : Nat, r = k := ⟨r.toNat, by omega⟩
  have hk : k < ds.length := by omega
  have e2 : dIx (.lst ds) (.int (k : Int)) = .ok ds[k] := by
    have e3 : atD ds (k : Int) = some ds[k] := by
      unfold atD
      rw [if_pos (by omega), Int.toNat_natCast, List.getElem?_eq_getElem hk]
    show (match atD ds (k : Int) with | some d => R.ok d | none => .stuck) = _
    rw [e3]
  show R.all _ _ ((lift [.sh .deal, .sh (.lst ds)] (dIx (.lst ds) (.int (k : Int))) fun d => .ok (.ret d)).nb endM)
  rw [e2]
  exact List.getElem_mem hk
theorem chosen {α : Type} {F : α → D} {Q : α → Prop} : ∀ {ys : List D}, (∀ y ∈ ys, ∃ o, y = F o ∧ Q o) → ∃ os : List α, ys = os.map F ∧ ∀ o ∈ os, Q o
  | [], _ => ⟨[], rfl, fun o ho => absurd ho List.not_mem_nil⟩
  | y :: ys, h => by
    obtain ⟨o, rfl, q⟩ := h y List.mem_cons_self
    obtain ⟨os, rfl, qs⟩ := chosen (F := F) (Q := Q) (ys := ys) fun z hz => h z (List.mem_cons_of_mem _ hz)
    refine ⟨o :: os, rfl, fun x hx => ?_⟩
    rcases List.mem_cons.mp hx with rfl | z
    · exact q
    · exact qs x z
theorem vMake {ρ : Rho} {n a : Nat} {m : List D → R (List D)} {ma : Rho → R (List D)} {ds es : List D} (h : ma ρ = .ok ds) (hl : ds.length + 1 = a) (hm : m ds = .ok es) : mMake n a m ma ρ = .ok (.obj n es) := by
  unfold mMake
  rw [h, R.bind_ok, grd_ok hl, hm]
  rfl
/-! ### the worlds drawn -/
structure Wo where
  fl : List Int
  g : Nat
  L : List Nat
  M : List Int
structure Wo.Ok (o : Wo) (p k : Nat) : Prop where
  h : Fw p k o.fl o.g o.L
  t : Tb o.L o.M (p ^ k)
  e : K05.f_Field___init__ [.int p, ti (o.fl ++ [1])] = .ok (fA p k o.fl o.g o.L o.M)
def Wo.w (p : Nat) (o : Wo) : D := wD p o.fl
def Wo.f (p k : Nat) (o : Wo) : D := fD p k o.fl o.g o.L o.M
def sizesA : List (Nat × Nat) := [(2, 1), (3, 1), (2, 2), (5, 1), (7, 1), (2, 3), (3, 2), (2, 2), (3, 2), (2, 3), (11, 1), (13, 1), (2, 4)]
def sizesB : List (Nat × Nat) := [(5, 2), (3, 3), (2, 5), (7, 2), (17, 1), (19, 1), (23, 1), (29, 1), (31, 1), (37, 1), (41, 1), (43, 1), (47, 1)]
def tp (s : Nat × Nat) : D := .tup [.int s.1, .int s.2]
theorem sizes_ok : ∀ s ∈ sizesA ++ sizesB, s.1 ∈ primes ∧ (s.2 = 1 ∨ s ∈ sizes2) ∧ 2 ≤ s.1 ∧ s.1 ≤ 47 ∧ 1 ≤ s.2 ∧ s.2 ≤ 5 ∧ s.1 ^ s.2 ≤ 49 ∧ s.1 < s.1 ^ s.2 + 1 := by decide +kernel
theorem sizes_two : ∀ s ∈ sizes2, s.1 = 2 ∨ s.1 = 3 ∨ s.1 = 5 ∨ s.1 = 7 := by decide +kernel
namespace K05
theorem some_irr : ((sizesA ++ sizesB).all fun s => (List.range (s.1 ^ s.2)).any fun n => isT (f_l_is_prime [.int (s.1 : Nat), li (num (s.1 : Nat) s.2 (n : Nat))])) = true := by decide +kernel
theorem isT_irr {p : Int} {f : List Int} (hp0 : 1 < p) (hp1 : p < 100) (mf : Mo p f) (hl : f.length < 900) (hpe : p ^ (f.length - 1) < 1000000) : isT (f_l_is_prime [.int p, li f]) = true ↔ Irr p f := by
  obtain ⟨b, e, h⟩ := e_isprime hp0 hp1 mf hl hpe
  rw [e, ← h]
  cases b <;> simp [isT]
section
variable {p k : Nat}
structure Sz (p k : Nat) : Prop where
  mem : (p, k) ∈ sizesA ++ sizesB
theorem Sz.ok (s : Sz p k) : p ∈ primes ∧ (k = 1 ∨ (p, k) ∈ sizes2) ∧ 2 ≤ p ∧ p ≤ 47 ∧ 1 ≤ k ∧ k ≤ 5 ∧ p ^ k ≤ 49 ∧ p < p ^ k + 1 := sizes_ok (p, k) s.mem
theorem Sz.num_ok (s : Sz p k) (n : Int) : Mo (p : Int) (num p k n) ∧ (num (p : Int) k n).length < 900 ∧ (p : Int) ^ ((num (p : Int) k n).length - 1) < 1000000 := by
  obtain ⟨_, _, p2, p47, k1, k5, q49, _⟩ := s.ok
  refine ⟨num_mo (by omega) k n, by rw [num_len]; omega, ?_⟩
  rw [num_len, Nat.add_sub_cancel, ← Int.natCast_pow]
  omega
theorem Sz.wd (s : Sz p k) (n : Int) : Wd p k (dig p k n) := by
  obtain ⟨_, _, p2, p47, k1, k5, q49, _⟩ := s.ok
  exact ⟨by omega, by omega, k1, dig_len _ _ _, dig_rd (by omega) k n, by rw [← Int.natCast_pow]; omega⟩
theorem Sz.irr (s : Sz p k) : ∃ n : Nat, n < p ^ k ∧ Irr p (num p k n) := by
  have h := List.all_eq_true.mp some_irr (p, k) s.mem
  obtain ⟨n, hn, hp⟩ := List.any_eq_true.mp h
  obtain ⟨a, b, c⟩ := s.num_ok n
  have := s.ok
  exact ⟨n, List.mem_range.mp hn, (isT_irr (by omega) (by omega) a b c).mp hp⟩
theorem mm_one_deg {p : Int} {fl : List Int} (w : Wd p 1 fl) : mm p 1 fl = fun x y => x * y % p := by
  funext x y
  have hp := w.p0
  have r0 := Int.emod_nonneg (x * y) (show p ≠ 0 by omega)
  have r1 := Int.emod_lt_of_pos (x * y) hp
  refine mm_uniq w ⟨r0, by rw [Int.pow_one]; exact r1⟩ ?_
  have e : ∀ z : Int, dig p 1 z = [z % p] := fun z => rfl
  rw [e, e, e, Int.emod_emod_of_dvd _ (Int.dvd_refl p)]
  obtain ⟨h, eh⟩ : ∃ h, (x % p) * (y % p) = x * y % p + p * h := ⟨(x % p) * (y % p) / p, by
    have h1 := Int.emod_add_mul_ediv ((x % p) * (y % p)) p
    rw [← Int.mul_emod] at h1
    omega⟩
  refine Cg.of_p (h := [h]) fun t => ?_
  rw [ev_mul]
  simp only [ev]
  grind
theorem Sz.gn (s : Sz p k) {fl : List Int} (w : Wd p k fl) (irr : Irr p (fl ++ [1])) : ∃ g L, Gn (mm p k fl) (p ^ k) g L := by
  obtain ⟨pm, k2, p2, p47, k1, k5, q49, _⟩ := s.ok
  rcases k2 with rfl | k2
  · have h := List.all_eq_true.mp makers1 p pm
    obtain ⟨g, L, _, _, gn⟩ := findG_ok _ 1 (Nat.le_refl 1) (fun j j1 j2 => by omega) h
    refine ⟨g, L, ?_⟩
    rw [mm_one_deg w, Nat.pow_one]
    exact gn
  · obtain ⟨b0, b1⟩ := ev_bound w.p0 fl w.rf
    rw [w.lf, ← Int.natCast_pow] at b1
    obtain ⟨n, hn⟩ : ∃ n : Nat, ev fl p = n := ⟨(ev fl p).toNat, by omega⟩
    have hd : dig p k n = fl := by
      rw [← hn]
      have := dig_of w.p0 fl w.rf
      rw [w.lf] at this
      exact this
    have h := List.all_eq_true.mp (makers2 (p, k) k2) n (List.mem_range.mpr (by show n < p ^ k; omega))
    have hi : isT (f_l_is_prime [.int (p : Nat), li (num (p : Nat) k (n : Nat))]) = true := by
      obtain ⟨a, b, c⟩ := s.num_ok n
      refine (isT_irr (by omega) (by omega) a b c).mpr ?_
      unfold num
      rw [hd]
      exact irr
    have h2 : (!(isT (f_l_is_prime [.int (p : Nat), li (num (p : Nat) k (n : Nat))])) || findG (mm (p : Nat) k (dig (p : Nat) k (n : Nat))) (p ^ k) (p ^ k) 1) = true := h
    rw [hi, Bool.not_true, Bool.false_or, hd] at h2
    obtain ⟨g, L, _, _, gn⟩ := findG_ok _ 1 (Nat.le_refl 1) (fun j j1 j2 => by omega) h2
    exact ⟨g, L, gn⟩
theorem Sz.world (s : Sz p k) {fl : List Int} (w : Wd p k fl) (irr : Irr p (fl ++ [1])) : ∃ o : Wo, o.fl = fl ∧ o.Ok p k := by
  obtain ⟨g, L, gn⟩ := s.gn w irr
  have f : Fw p k fl g L := ⟨w, s.ok.1, irr, gn⟩
  obtain ⟨M, e, t⟩ := e_init f
  exact ⟨⟨fl, g, L, M⟩, rfl, f, t, e⟩
end
theorem al_size : Av (f_l_size [.deal]) fun d => ∃ p k : Nat, d = .tup [.int p, .int k] ∧ Sz p k := by
  have sub : ∀ (l : List (Nat × Nat)), (∀ s ∈ l, s ∈ sizesA ++ sizesB) → ∀ d ∈ l.map tp, ∃ p k : Nat, d = .tup [.int p, .int k] ∧ Sz p k := fun l h d hd => by
    obtain ⟨s, hs, rfl⟩ := List.mem_map.mp hd
    exact ⟨s.1, s.2, rfl, ⟨h s hs⟩⟩
  refine fun_al (.gseq (.set (d := .lst (sizesA.map tp)) rfl ⟨_, rfl, .gseq (.set (d := .lst (sizesB.map tp)) rfl ⟨_, rfl, .ret (aIf ?_ ?_ ?_)⟩)⟩))
  · exact aTb (aBin (aC2 rfl rfl (aAny (by decide) (by decide) fun r _ _ => aOk rfl (aOk (eq_ii _ _) ⟨_, rfl, trivial⟩))))
  · exact aC2 rfl rfl ((al_ofD (by decide) (by decide)).imp fun d hd => ⟨d, rfl, sub sizesB (fun s h => List.mem_append_right _ h) d hd⟩)
  · exact aC2 rfl rfl ((al_ofD (by decide) (by decide)).imp fun d hd => ⟨d, rfl, sub sizesA (fun s h => List.mem_append_left _ h) d hd⟩)
theorem al_modulus {p k : Nat} (s : Sz p k) : Av (f_l_modulus [.deal, .int p, .int k]) fun d => ∃ fl, d = li (fl ++ [1]) ∧ Wd p k fl ∧ Irr p (fl ++ [1]) := by
  obtain ⟨pm, k2, p2, p47, k1, k5, q49, _⟩ := s.ok
  have hp0 : 1 < (p : Int) := by omega
  have hp1 : (p : Int) < 100 := by omega
  have q0 : 0 < p ^ k := Nat.pow_pos (by omega)
  refine fun_al (.gseq (.set (d := .int ((p ^ k : Nat) : Int)) (vCall (v2 rfl rfl) rfl (by rw [Int.natCast_pow]; exact e_lpower hp0 hp1 (by omega))) ⟨_, rfl, .seq (.set (aC2 rfl rfl (aAny (by omega) (by omega) fun r r0 rq => ⟨_, rfl, ?_⟩)))⟩))
  obtain ⟨a, rfl⟩ : ∃ a : Nat, r = a := ⟨r.toNat, by omega⟩
  refine Go.al (.seqr (.forR (fun i ρ => ρ = [.sh .deal, .sh (.int p), .sh (.int k), .sh (.int ((p ^ k : Nat) : Int)), .sh (.int a), .no, .no] ∧ ∀ j : Nat, j < i → ¬ Irr p (num p k ((a + j) % p ^ k : Nat))) (fun d => ∃ fl, d = li (fl ++ [1]) ∧ Wd p k fl ∧ Irr p (fl ++ [1])) (xs := rangeD 0 (p ^ k) 1) (r1 (p ^ k) rfl (by omega)) ⟨rfl, fun j hj => absurd hj (Nat.not_lt_zero j)⟩ ?_ ?_ ?_))
  · rintro i z ρ hz ⟨rfl, no⟩
    obtain ⟨rfl, hi⟩ := range_mem hz
    rw [Int.zero_add]
    obtain ⟨n, hn⟩ : ∃ n : Nat, n = (a + i) % p ^ k := ⟨_, rfl⟩
    obtain ⟨m1, m2, m3⟩ := s.num_ok n
    refine ⟨_, rfl, .seq (.set (d := li (num p k n)) (vCall (vCons rfl (vCons rfl (v1 (vBin (vBi (v1 (vBin rfl rfl (add_nn a i))) rfl) rfl (mod_ii (by omega)))))) rfl ?_) ⟨_, rfl, ?_⟩)⟩
    · rw [← Int.natCast_emod, ← hn]
      exact e_monic hp0 hp1 (by omega) n
    obtain ⟨b, eb, hb⟩ := e_isprime hp0 hp1 m1 m2 m3
    cases b with
    | true => exact .seqr (.ifT (vTt (vCall (v2 rfl rfl) rfl eb)) (.ret rfl (.inr ⟨_, rfl, .inr ⟨_, rfl, dig p k n, rfl, s.wd n, hb.mp rfl⟩⟩)))
    | false =>
      refine .seq (.ifF (vTt (vCall (v2 rfl rfl) rfl eb)) (.skip ⟨_, rfl, .no (.no (.skip (.inl ⟨_, rfl, rfl, fun j hj => ?_⟩)))⟩))
      by_cases e : j = i
      · rw [e, ← hn]
        exact fun z => Bool.false_ne_true (hb.mpr z)
      · exact no j (by omega)
  · rintro ρ ⟨rfl, no⟩
    exfalso
    rw [rangeD_len] at no
    obtain ⟨n, hn, ir⟩ := s.irr
    have ha : a < p ^ k := by omega
    rcases Nat.lt_or_ge n a with z | z
    · refine no (n + p ^ k - a) (by omega) ?_
      rw [show a + (n + p ^ k - a) = n + p ^ k by omega, Nat.add_mod_right, Nat.mod_eq_of_lt hn]
      exact ir
    · refine no (n - a) (by omega) ?_
      rw [show a + (n - a) = n by omega, Nat.mod_eq_of_lt hn]
      exact ir
  · rintro d ⟨fl, rfl, w, ir⟩
    exact .inr ⟨_, rfl, _, rfl, fl, rfl, w, ir⟩
end K05
end Y
/-! # R3 -/
set_option Elab.async false
set_option linter.all false
set_option maxRecDepth 100000
set_option maxHeartbeats 4000000
namespace Y
open Po PySem
/-! ### sums and differences of elements -/
section
variable {p : Int} {k : Nat} {fl : List Int} {x y z : Int}
theorem pl_uniq (w : Wd p k fl) (hz : El p k z) (h : Cg p (fl ++ [1]) (Po.add (dig p k x) (dig p k y)) (dig p k z)) : pl p k x y = z := by
  obtain ⟨a, b⟩ := pl_ok w x y
  exact dg_same w a hz (b.symm.trans h)
theorem pl_comm (w : Wd p k fl) (x y : Int) : pl p k x y = pl p k y x := pl_uniq w (pl_ok w y x).1 (((pl_ok w y x).2).evl fun t => by rw [ev_add, ev_add]; omega)
theorem pl_assoc (w : Wd p k fl) (x y z : Int) : pl p k (pl p k x y) z = pl p k x (pl p k y z) := by
  obtain ⟨a1, c1⟩ := pl_ok w x y
  obtain ⟨a2, c2⟩ := pl_ok w y z
  obtain ⟨a3, c3⟩ := pl_ok w x (pl p k y z)
  refine pl_uniq w a3 ?_
  have h1 := (c1.symm).add (Cg.refl p (fl ++ [1]) (dig p k z))
  have h2 := (Cg.refl p (fl ++ [1]) (dig p k x)).add c2
  exact (h1.trans (Cg.of_ev fun t => by rw [ev_add, ev_add, ev_add, ev_add]; omega)).trans (h2.trans c3)
theorem zero_el (w : Wd p k fl) : El p k 0 := ⟨Int.le_refl 0, Int.pow_pos w.p0⟩
theorem pl_0 (w : Wd p k fl) (hx : El p k x) : pl p k 0 x = x := pl_uniq w hx (Cg.of_ev fun t => by rw [ev_add, dig_zero, ev_zeros]; omega)
theorem pl_cancel (w : Wd p k fl) {u v : Int} (hu : El p k u) (hv : El p k v) (h : pl p k u y = pl p k v y) : u = v := by
  have n : pl p k (mi p k 0 y) y = 0 := pl_mi w (zero_el w) y
  have e : ∀ s, El p k s → pl p k (mi p k 0 y) (pl p k s y) = s := fun s hs => by
    rw [pl_comm w s y, ← pl_assoc w, n, pl_0 w hs]
  rw [← e u hu, h, e v hv]
theorem mm_z (w : Wd p k fl) (x : Int) : mm p k fl x 0 = 0 := by rw [mm_comm w, mm_zero w]
theorem mm_o (w : Wd p k fl) (hx : El p k x) : mm p k fl x 1 = x := by rw [mm_comm w, mm_one w hx]
theorem pl_mm (w : Wd p k fl) (x y z : Int) : mm p k fl (pl p k x y) z = pl p k (mm p k fl x z) (mm p k fl y z) := by
  rw [mm_comm w, mm_pl w, mm_comm w z x, mm_comm w z y]
/-! ### a line again and again -/
def sm (p : Int) (k : Nat) (fl : List Int) (a : Int) : Nat → Int
  | 0 => 0
  | n + 1 => pl p k (mm p k fl a (sm p k fl a n)) 1
theorem sm_el (w : Wd p k fl) (a : Int) : ∀ n, El p k (sm p k fl a n)
  | 0 => zero_el w
  | n + 1 => (pl_ok w _ _).1
theorem pw_s (w : Wd p k fl) (a : Int) (n : Nat) : mm p k fl a (pw p k fl a n) = pw p k fl a (n + 1) := mm_comm w _ _
theorem sm_add (w : Wd p k fl) (a : Int) (m : Nat) : ∀ n, sm p k fl a (m + n) = pl p k (mm p k fl (pw p k fl a n) (sm p k fl a m)) (sm p k fl a n)
  | 0 => by
    rw [Nat.add_zero]
    show _ = pl p k (mm p k fl 1 _) 0
    rw [mm_one w (sm_el w a m), pl_comm w, pl_0 w (sm_el w a m)]
  | n + 1 => by
    have ih := sm_add w a m n
    show pl p k (mm p k fl a (sm p k fl a (m + n))) 1 = pl p k _ (pl p k (mm p k fl a (sm p k fl a n)) 1)
    rw [ih, mm_pl w, pl_assoc w, ← mm_assoc w, pw_s w]
theorem sm_one (w : Wd p k fl) (a : Int) : sm p k fl a 1 = 1 := by
  show pl p k (mm p k fl a 0) 1 = 1
  rw [mm_z w, pl_0 w (one_el w)]
/-- a sum of powers, times one less -/
theorem sm_less (w : Wd p k fl) {a : Int} (ha : El p k a) : ∀ n, pl p k (mm p k fl (sm p k fl a n) (mi p k a 1)) 1 = pw p k fl a n
  | 0 => by
    show pl p k (mm p k fl 0 _) 1 = 1
    rw [mm_zero w, pl_0 w (one_el w)]
  | n + 1 => by
    have ih := sm_less w ha n
    have hd : El p k (mi p k a 1) := (mi_ok w a 1).1
    show pl p k (mm p k fl (pl p k (mm p k fl a (sm p k fl a n)) 1) _) 1 = _
    rw [pl_mm w, mm_assoc w, mm_one w hd, pl_assoc w, pl_mi w ha]
    have e : pl p k (mm p k fl a (mm p k fl (sm p k fl a n) (mi p k a 1))) a = mm p k fl a (pl p k (mm p k fl (sm p k fl a n) (mi p k a 1)) 1) := by rw [mm_pl w, mm_o w ha]
    rw [e, ih, pw_s w]
theorem sm_mi (w : Wd p k fl) {a : Int} (ha : El p k a) (n : Nat) : mm p k fl (sm p k fl a n) (mi p k a 1) = mi p k (pw p k fl a n) 1 := by
  refine pl_cancel w (y := 1) (mm_ok w _ _).1 (mi_ok w _ _).1 ?_
  rw [sm_less w ha, pl_mi w (pw_el w a n)]
theorem mi_ne (w : Wd p k fl) {a : Int} (ha : El p k a) (h : a ≠ 1) : mi p k a 1 ≠ 0 := fun e => h (by
  have := pl_mi w ha 1
  rw [e, pl_0 w (one_el w)] at this
  exact this.symm)
theorem mi_self (w : Wd p k fl) : mi p k 1 1 = 0 := by
  refine pl_cancel w (y := 1) (mi_ok w _ _).1 (zero_el w) ?_
  rw [pl_mi w (one_el w), pl_0 w (one_el w)]
/-- a line n times -/
def ln (p : Int) (k : Nat) (fl : List Int) (a b : Int) (n : Nat) : Int × Int := (pw p k fl a n, mm p k fl (sm p k fl a n) b)
theorem ln_el (w : Wd p k fl) (a b : Int) (n : Nat) : El p k (ln p k fl a b n).1 ∧ El p k (ln p k fl a b n).2 := ⟨pw_el w a n, (mm_ok w _ _).1⟩
theorem ln_zero (w : Wd p k fl) (a b : Int) : ln p k fl a b 0 = (1, 0) := by
  show (1, mm p k fl 0 b) = _
  rw [mm_zero w]
theorem ln_one (w : Wd p k fl) {a b : Int} (ha : El p k a) (hb : El p k b) : ln p k fl a b 1 = (a, b) := by
  unfold ln
  rw [pw_one w ha, sm_one w, mm_one w hb]
theorem ln_add (w : Wd p k fl) (a b : Int) (i j : Nat) : (mm p k fl (ln p k fl a b j).1 (ln p k fl a b i).1, pl p k (mm p k fl (ln p k fl a b j).1 (ln p k fl a b i).2) (ln p k fl a b j).2) = ln p k fl a b (i + j) := by
  show (mm p k fl (pw p k fl a j) (pw p k fl a i), pl p k (mm p k fl (pw p k fl a j) (mm p k fl (sm p k fl a i) b)) (mm p k fl (sm p k fl a j) b)) = (pw p k fl a (i + j), mm p k fl (sm p k fl a (i + j)) b)
  rw [pw_add w, Nat.add_comm j i, sm_add w, pl_mm w, mm_assoc w]
end
/-! ### a world: a maker and the places of the powers -/
section
variable {p k g : Nat} {fl : List Int} {L : List Nat}
theorem Fw.pow_of (h : Fw p k fl g L) {x : Int} (hx : El p k x) (hz : x ≠ 0) : ∃ j : Nat, j < p ^ k - 1 ∧ x = pw p k fl g j := by
  have e := h.qk
  obtain ⟨n, rfl⟩ : ∃ n : Nat, x = n := ⟨x.toNat, by have := hx.1; omega⟩
  have hn := hx.2
  have hm := h.gn.all n (by omega) (by omega)
  obtain ⟨j, hj, hl⟩ := List.mem_iff_getElem.mp hm
  refine ⟨j, by rw [h.gn.len] at hj; exact hj, ?_⟩
  rw [← h.pows.1 j n (by rw [List.getElem?_eq_getElem hj, hl])]
theorem Fw.inv (h : Fw p k fl g L) {x : Int} (hx : El p k x) (hz : x ≠ 0) : ∃ y, mm p k fl x y = 1 := by
  obtain ⟨j, hj, e⟩ := h.pow_of hx hz
  refine ⟨pw p k fl g (p ^ k - 1 - j), ?_⟩
  rw [e, pw_add h.w, show j + (p ^ k - 1 - j) = p ^ k - 1 by omega, h.pows.2]
theorem Fw.cancel (h : Fw p k fl g L) {u v y : Int} (hu : El p k u) (hv : El p k v) (hy : El p k y) (y0 : y ≠ 0) (e : mm p k fl u y = mm p k fl v y) : u = v := by
  obtain ⟨z, ez⟩ := h.inv hy y0
  have s : ∀ s, El p k s → mm p k fl (mm p k fl s y) z = s := fun s hs => by rw [mm_assoc h.w, ez, mm_o h.w hs]
  rw [← s u hu, e, s v hv]
theorem Fw.mm_ne (h : Fw p k fl g L) {x y : Int} (hx : El p k x) (hy : El p k y) (x0 : x ≠ 0) (y0 : y ≠ 0) : mm p k fl x y ≠ 0 := fun e => x0 (h.cancel hx (zero_el h.w) hy y0 (by rw [e, mm_zero h.w]))
theorem Fw.pw_ne (h : Fw p k fl g L) {x : Int} (hx : El p k x) (x0 : x ≠ 0) : ∀ n, pw p k fl x n ≠ 0
  | 0 => by show (1 : Int) ≠ 0; decide
  | n + 1 => h.mm_ne (pw_el h.w x n) hx (h.pw_ne hx x0 n) x0
/-- sums of ones -/
theorem sm_ones (h : Fw p k fl g L) : ∀ n : Nat, sm p k fl 1 n = ((n % p : Nat) : Int)
  | 0 => by rw [Nat.zero_mod]; rfl
  | n + 1 => by
    have w := h.w
    have hp := w.p1
    have ih := sm_ones h n
    have hl : n % p < p := Nat.mod_lt _ (by omega)
    obtain ⟨j, hj⟩ : ∃ j, k = j + 1 := ⟨k - 1, by have := w.k1; omega⟩
    show pl p k (mm p k fl 1 (sm p k fl 1 n)) 1 = _
    rw [mm_one w (sm_el w 1 n), ih, hj, K05.pl_next, Int.ediv_eq_zero_of_lt (by omega) (by omega), Int.ediv_eq_zero_of_lt (by omega) (by omega), K05.pl_zero]
    rw [Int.mul_zero, Int.add_zero, Int.natCast_emod, Int.emod_add_emod, Int.natCast_emod, Int.natCast_add]
    rfl
end
end Y
/-! # FE -/
set_option Elab.async false
set_option linter.all false
set_option maxRecDepth 100000
set_option maxHeartbeats 2000000
namespace Y
open Po Lean.Grind
/-! ### the field's elements as a ring -/
structure Fe {p : Int} {k : Nat} {fl : List Int} (w : Wd p k fl) where
  v : Int
  el : El p k v
section
variable {p : Int} {k : Nat} {fl : List Int} {w : Wd p k fl}
theorem Fe.eq {a b : Fe w} (h : a.v = b.v) : a = b := by
  cases a; cases b
  simp only at h
  subst h
  rfl
theorem cst_el (w : Wd p k fl) (c : Int) : El p k (c % p) := by
  have h1 := Int.emod_nonneg c (b := p) (by have := w.p1; omega)
  have h2 := Int.emod_lt_of_pos c w.p0
  have h3 := (one_el w)
  refine ⟨h1, ?_⟩
  obtain ⟨j, hj⟩ : ∃ j, k = j + 1 := ⟨k - 1, by have := w.k1; omega⟩
  rw [hj, Int.pow_succ]
  have h4 : 1 ≤ p ^ j := by
    have := Int.pow_pos (n := p) (m := j) w.p0
    omega
  have : p * 1 ≤ p * p ^ j := Int.mul_le_mul_of_nonneg_left h4 (by have := w.p0; omega)
  rw [Int.mul_comm (p ^ j) p]
  omega
theorem dig_c (w : Wd p k fl) (c t : Int) : ev (dig p k (c % p)) t = c % p := by
  obtain ⟨j, hj⟩ : ∃ j, k = j + 1 := ⟨k - 1, by have := w.k1; omega⟩
  have h1 := Int.emod_nonneg c (b := p) (by have := w.p1; omega)
  have h2 := Int.emod_lt_of_pos c w.p0
  rw [hj, dig, Int.emod_eq_of_lt h1 h2, Int.ediv_eq_zero_of_lt h1 h2, dig_zero, ev, ev_zeros]
  omega
theorem pl_c (w : Wd p k fl) (a b : Int) : pl p k (a % p) (b % p) = (a + b) % p :=
  pl_uniq w (cst_el w _) (Cg.of_p (h := [(a % p + b % p) / p]) fun t => by
    rw [ev_add, dig_c w, dig_c w, dig_c w, Int.add_emod a b p]
    have := Int.mul_ediv_add_emod (a % p + b % p) p
    simp only [ev, Int.mul_zero, Int.add_zero]
    omega)
theorem mm_c (w : Wd p k fl) (a b : Int) : mm p k fl (a % p) (b % p) = (a * b) % p :=
  mm_uniq w (cst_el w _) (Cg.of_p (h := [(a % p * (b % p)) / p]) fun t => by
    rw [ev_mul, dig_c w, dig_c w, dig_c w, Int.mul_emod a b p]
    have := Int.mul_ediv_add_emod (a % p * (b % p)) p
    simp only [ev, Int.mul_zero, Int.add_zero]
    omega)
/-- a whole number as an element -/
def fz (w : Wd p k fl) (c : Int) : Fe w := ⟨c % p, cst_el w c⟩
theorem one_c (w : Wd p k fl) : (1 : Int) % p = 1 := Int.emod_eq_of_lt (by omega) w.p1
theorem mi_pl (w : Wd p k fl) {x y : Int} (hx : El p k x) : mi p k x y = pl p k x (mi p k 0 y) := by
  refine pl_cancel (y := y) w (mi_ok w x y).1 (pl_ok w _ _).1 ?_
  rw [pl_mi w hx, pl_assoc w, pl_mi w (zero_el w), pl_comm w, pl_0 w hx]
instance : Add (Fe w) := ⟨fun a b => ⟨pl p k a.v b.v, (pl_ok w _ _).1⟩⟩
instance : Mul (Fe w) := ⟨fun a b => ⟨mm p k fl a.v b.v, (mm_ok w _ _).1⟩⟩
instance : Neg (Fe w) := ⟨fun a => ⟨mi p k 0 a.v, (mi_ok w _ _).1⟩⟩
instance : Sub (Fe w) := ⟨fun a b => ⟨mi p k a.v b.v, (mi_ok w _ _).1⟩⟩
instance : NatCast (Fe w) := ⟨fun n => fz w n⟩
instance (n : Nat) : OfNat (Fe w) n := ⟨fz w n⟩
instance : IntCast (Fe w) := ⟨fun n => fz w n⟩
instance : SMul Nat (Fe w) := ⟨fun n a => fz w n * a⟩
instance : SMul Int (Fe w) := ⟨fun n a => fz w n * a⟩
instance : HPow (Fe w) Nat (Fe w) := ⟨fun a n => ⟨pw p k fl a.v n, pw_el w _ n⟩⟩
theorem Fe.add_v (a b : Fe w) : (a + b).v = pl p k a.v b.v := rfl
theorem Fe.mul_v (a b : Fe w) : (a * b).v = mm p k fl a.v b.v := rfl
theorem Fe.sub_v (a b : Fe w) : (a - b).v = mi p k a.v b.v := rfl
theorem Fe.pow_v (a : Fe w) (n : Nat) : (a ^ n).v = pw p k fl a.v n := rfl
theorem Fe.zero_v : (0 : Fe w).v = 0 := Int.zero_emod p
theorem Fe.one_v : (1 : Fe w).v = 1 := one_c w
theorem fz_add (a b : Int) : fz w (a + b) = fz w a + fz w b := Fe.eq (pl_c w a b).symm
theorem fz_mul (a b : Int) : fz w (a * b) = fz w a * fz w b := Fe.eq (mm_c w a b).symm
theorem neg_add (a : Fe w) : -a + a = 0 := Fe.eq (by rw [Fe.zero_v]; exact pl_mi w (zero_el w) a.v)
instance : CommRing (Fe w) := {
  natCast := inferInstance, ofNat := inferInstance, nsmul := inferInstance, npow := inferInstance, intCast := inferInstance, zsmul := inferInstance
  add_zero := fun a => Fe.eq (by rw [Fe.add_v, Fe.zero_v, pl_comm w, pl_0 w a.el])
  add_comm := fun a b => Fe.eq (pl_comm w _ _)
  add_assoc := fun a b c => Fe.eq (pl_assoc w _ _ _)
  mul_assoc := fun a b c => Fe.eq (mm_assoc w _ _ _)
  mul_comm := fun a b => Fe.eq (mm_comm w _ _)
  mul_one := fun a => Fe.eq (by rw [Fe.mul_v, Fe.one_v, mm_o w a.el])
  one_mul := fun a => Fe.eq (by rw [Fe.mul_v, Fe.one_v, mm_one w a.el])
  left_distrib := fun a b c => Fe.eq (mm_pl w _ _ _)
  right_distrib := fun a b c => Fe.eq (pl_mm w _ _ _)
  zero_mul := fun a => Fe.eq (by rw [Fe.mul_v, Fe.zero_v, mm_zero w])
  mul_zero := fun a => Fe.eq (by rw [Fe.mul_v, Fe.zero_v, mm_z w])
  pow_zero := fun a => Fe.eq (by rw [Fe.one_v]; rfl)
  pow_succ := fun a n => rfl
  ofNat_succ := fun a => Fe.eq (by rw [Fe.add_v, Fe.one_v]; exact (by
    have := pl_c w (a : Int) 1
    rw [one_c w] at this
    exact this.symm : ((a + 1 : Nat) : Int) % p = pl p k ((a : Int) % p) 1))
  neg_add_cancel := neg_add
  sub_eq_add_neg := fun a b => Fe.eq (mi_pl w a.el)
  neg_zsmul := fun i a => by
    have e : fz w (-i) * a + fz w i * a = 0 := by
      rw [show fz w (-i) * a + fz w i * a = (fz w (-i) + fz w i) * a from Fe.eq (by rw [Fe.mul_v, Fe.add_v, Fe.add_v, Fe.mul_v, Fe.mul_v, pl_mm w])]
      rw [← fz_add, Int.add_left_neg]
      exact Fe.eq (by rw [Fe.zero_v, Fe.mul_v, show (fz w 0).v = 0 from Int.zero_emod p, mm_zero w])
    have e2 := neg_add (fz w i * a)
    refine Fe.eq (pl_cancel (y := (fz w i * a).v) w (fz w (-i) * a).el (-(fz w i * a)).el ?_)
    exact congrArg Fe.v (e.trans e2.symm)
  intCast_neg := fun i => by
    have e : fz w (-i) + fz w i = 0 := by
      rw [← fz_add, Int.add_left_neg]
      rfl
    refine Fe.eq (pl_cancel (y := (fz w i).v) w (fz w (-i)).el (-(fz w i)).el ?_)
    exact congrArg Fe.v (e.trans (neg_add _).symm) }
example (a b c : Fe w) : (a + b) * (a - b) = a ^ 2 - b * b + c - c := by grind
theorem fz_p (h : Int) : fz w (p * h) = 0 := Fe.eq (by rw [Fe.zero_v]; exact Int.mul_emod_right p h)
/-! ### int rows at an element -/
def pz (w : Wd p k fl) (l : List Int) (x : Fe w) : Fe w := Ft.pe (l.map (fz w)) x
theorem fz_0 : fz w 0 = 0 := rfl
theorem pz_add (x : Fe w) : ∀ a b : List Int, pz w (Po.add a b) x = pz w a x + pz w b x
  | [], b => by simp only [pz, Po.add, List.map_nil, Ft.pe]; grind
  | a :: l, [] => by simp only [pz, Po.add, List.map_nil, List.map_cons, Ft.pe]; grind
  | a :: l, b :: m => by
    have := pz_add x l m
    simp only [pz, Po.add, List.map_cons, Ft.pe, fz_add] at this ⊢
    rw [this]
    grind
theorem pz_scl (x : Fe w) (c : Int) : ∀ a : List Int, pz w (Po.scl c a) x = fz w c * pz w a x
  | [] => by simp only [pz, Po.scl, List.map_nil, Ft.pe]; grind
  | a :: l => by
    have := pz_scl x c l
    simp only [pz, Po.scl, List.map_cons, Ft.pe, fz_mul] at this ⊢
    rw [this]
    grind
theorem pz_cons (x : Fe w) (c : Int) (l : List Int) : pz w (c :: l) x = pz w l x * x + fz w c := rfl
theorem pz_mul (x : Fe w) : ∀ a b : List Int, pz w (Po.mul a b) x = pz w a x * pz w b x
  | [], b => by simp only [pz, Po.mul, List.map_nil, Ft.pe]; grind
  | a :: l, b => by
    have := pz_mul x l b
    rw [show Po.mul (a :: l) b = Po.add (Po.scl a b) (0 :: Po.mul l b) from rfl, pz_add, pz_scl, pz_cons, pz_cons, this, fz_0]
    grind
theorem co_cons0 (a : Int) (l : List Int) : co (a :: l) 0 = a := rfl
theorem co_consS (a : Int) (l : List Int) (i : Nat) : co (a :: l) (i + 1) = co l i := by unfold co; simp
theorem co_nil (i : Nat) : co [] i = 0 := by unfold co; simp
theorem pz_co0 (x : Fe w) : ∀ a : List Int, (∀ i, co a i = 0) → pz w a x = 0
  | [], _ => rfl
  | c :: l, h => by
    have h0 := h 0
    rw [co_cons0] at h0
    have := pz_co0 x l fun i => by have := h (i + 1); rwa [co_consS] at this
    rw [pz_cons, this, h0, fz_0]
    grind
theorem pz_co (x : Fe w) : ∀ a b : List Int, (∀ i, co a i = co b i) → pz w a x = pz w b x
  | [], b, h => (pz_co0 x b fun i => by rw [← h i, co_nil]).symm
  | c :: l, [], h => pz_co0 x (c :: l) fun i => by rw [h i, co_nil]
  | c :: l, d :: m, h => by
    have h0 := h 0
    rw [co_cons0, co_cons0] at h0
    have := pz_co x l m fun i => by have := h (i + 1); rwa [co_consS, co_consS] at this
    rw [pz_cons, pz_cons, this, h0]
/-- divided rows at an element -/
theorem pz_dv {f g q h : List Int} (e : ∀ t, ev f t = ev q t * ev g t + p * ev h t) (x : Fe w) : pz w f x = pz w q x * pz w g x := by
  have c := co_of (p := p) (f := f) (g := Po.mul q g) (h := h) fun t => by rw [ev_mul]; exact e t
  have e2 : pz w f x = pz w (Po.add (Po.mul q g) (Po.scl p h)) x := pz_co x _ _ fun i => by rw [c i, Po.co_add, Po.co_scl]
  rw [e2, pz_add, pz_mul, pz_scl, show fz w p = 0 from Fe.eq (by rw [Fe.zero_v]; exact Int.emod_self)]
  grind
end
end Y
/-! # RS -/
set_option Elab.async false
set_option linter.all false
set_option maxRecDepth 100000
set_option maxHeartbeats 2000000
namespace Y
open Po PySem
/-! ### data whose text is told: at most n signs, at most t deep -/
structure Sh (d : D) (n t : Nat) : Prop where
  pl : d.plain = true
  sh : d.py.showable = true
  ln : d.py.shown.length ≤ n
  ok : PyData.strOk d.py.shown = true
  dp : d.py.depth ≤ t
theorem Sh.mono {d : D} {n n' t t' : Nat} (h : Sh d n t) (a : n ≤ n') (b : t ≤ t') : Sh d n' t' := ⟨h.pl, h.sh, Nat.le_trans h.ln a, h.ok, Nat.le_trans h.dp b⟩
theorem sh_repr {d : D} {n t : Nat} (h : Sh d n t) (a : n ≤ 16777216 := by decide) (b : t ≤ 60 := by decide) : ∃ s, dRepr [d] = .ok (.str s) ∧ PyData.strOk s = true := by
  refine ⟨d.py.shown, ?_, h.ok⟩
  have e : repOk d = true := by
    unfold repOk
    rw [h.pl, h.sh, decide_eq_true (Nat.le_trans h.dp b), decide_eq_true (Nat.le_trans h.ln a)]
    rfl
  exact grd_ok e
theorem shown_nat : ∀ n : Nat, n < 2402 → (PyData.int (n : Int)).shown.length ≤ 4 ∧ PyData.strOk (PyData.int (n : Int)).shown = true := by decide +kernel
theorem shown_neg : (PyData.int (-1)).shown.length ≤ 4 ∧ PyData.strOk (PyData.int (-1)).shown = true := by decide +kernel
theorem Sh.int {i : Int} (h0 : -1 ≤ i) (h1 : i < 2402) : Sh (.int i) 4 0 := by
  have e : (D.int i).py = PyData.int i := by unfold D.py; rfl
  have key : (PyData.int i).shown.length ≤ 4 ∧ PyData.strOk (PyData.int i).shown = true := by
    by_cases c : i = -1
    · subst c; exact shown_neg
    · have := shown_nat i.toNat (by omega)
      rwa [Int.toNat_of_nonneg (by omega)] at this
  refine ⟨by simp [D.plain], ?_, by rw [e]; exact key.1, by rw [e]; exact key.2, by rw [e]; simp [PyData.depth]⟩
  rw [e, PyData.showable]
  refine decide_eq_true ?_
  by_cases h : i = 0
  · subst h; decide
  · have h2 : i.natAbs < 2 ^ 12 := by omega
    have : i.natAbs.log2 < 12 := (Nat.log2_lt (by omega)).mpr h2
    omega
theorem Sh.non : Sh .non 4 0 := ⟨by decide +kernel, by decide +kernel, by decide +kernel, by decide +kernel, by decide +kernel⟩
theorem Sh.bl (b : Bool) : Sh (.bl b) 5 0 := by
  cases b <;> exact ⟨by decide +kernel, by decide +kernel, by decide +kernel, by decide +kernel, by decide +kernel⟩
theorem textFrom_ok : ∀ (ts : List Str) (k : Nat) (acc : Str), PyData.strOk acc = true → (∀ t ∈ ts, PyData.strOk t = true) → PyData.strOk (textFrom k acc ts) = true
  | [], k, acc, h, _ => h
  | t :: ts, k, acc, h, ht => by
    refine textFrom_ok ts (k + 1) _ ?_ fun u hu => ht u (List.mem_cons_of_mem _ hu)
    have e : PyData.strOk ((if k > 0 then ", " else "" : String) : Str) = true := by split <;> decide +kernel
    rw [sk_app, sk_app, h, e, ht t List.mem_cons_self]
    rfl
theorem textFrom_le : ∀ (ts : List Str) (k : Nat) (acc : Str), (textFrom k acc ts).length ≤ acc.length + piled ts
  | [], k, acc => by
    show acc.length ≤ _
    omega
  | t :: ts, k, acc => by
    have ih := textFrom_le ts (k + 1) (acc ++ (if k > 0 then ", " else "" : String) ++ t)
    rw [sl_app, sl_app] at ih
    have e : ((if k > 0 then ", " else "" : String) : Str).length ≤ 2 := by split <;> decide +kernel
    rw [piled_cons]
    show (textFrom (k + 1) _ ts).length ≤ _
    omega
theorem list_short {k : Nat} {ts : List Str} (h : Short k ts) : (listText ts).length ≤ 2 + (k + 2) * ts.length ∧ PyData.strOk (listText ts) = true := by
  have hp := piled_le h
  have h0 : (("[" : String) : Str).length = 1 := rfl
  have h1 : (("]" : String) : Str).length = 1 := rfl
  unfold listText
  constructor
  · rw [sl_app]
    have := textFrom_le ts 0 "["
    omega
  · rw [sk_app, textFrom_ok ts 0 _ (by decide +kernel) fun t ht => (h t ht).2]
    decide +kernel
theorem py_all {n t : Nat} : ∀ {ds : List D}, (∀ x ∈ ds, Sh x n t) → D.plainL ds = true ∧ PyData.showableAll (D.pyL ds) = true ∧ Short n (PyData.shownAll (D.pyL ds)) ∧ (PyData.shownAll (D.pyL ds)).length = ds.length ∧ PyData.depthAll (D.pyL ds) ≤ t
  | [], _ => ⟨rfl, rfl, fun t ht => absurd ht List.not_mem_nil, rfl, Nat.zero_le _⟩
  | d :: ds, h => by
    obtain ⟨a1, a2, a3, a4, a5⟩ := py_all (ds := ds) fun x hx => h x (List.mem_cons_of_mem _ hx)
    have q := h d List.mem_cons_self
    refine ⟨by unfold D.plainL; rw [q.pl, a1]; rfl, by unfold D.pyL PyData.showableAll; rw [q.sh, a2]; rfl, ?_, by unfold D.pyL PyData.shownAll; rw [List.length_cons, a4]; rfl, ?_⟩
    · unfold D.pyL PyData.shownAll
      intro u hu
      rcases List.mem_cons.mp hu with z | z
      · rw [z]; exact ⟨q.ln, q.ok⟩
      · exact a3 u z
    · unfold D.pyL PyData.depthAll
      have := q.dp
      omega
theorem Sh.tup {ds : List D} {n t : Nat} (h : ∀ x ∈ ds, Sh x n t) : Sh (.tup ds) (3 + (n + 2) * ds.length) (t + 1) := by
  obtain ⟨a1, a2, a3, a4, a5⟩ := py_all h
  obtain ⟨t1, t2⟩ := tuple_short a3
  rw [a4] at t1
  exact ⟨by unfold D.plain; exact a1, by unfold D.py PyData.showable; exact a2, by unfold D.py PyData.shown; exact t1, by unfold D.py PyData.shown; exact t2, by unfold D.py PyData.depth; omega⟩
theorem Sh.lst {ds : List D} {n t : Nat} (h : ∀ x ∈ ds, Sh x n t) : Sh (.lst ds) (3 + (n + 2) * ds.length) (t + 1) := by
  obtain ⟨a1, a2, a3, a4, a5⟩ := py_all h
  obtain ⟨t1, t2⟩ := list_short a3
  rw [a4] at t1
  exact ⟨by unfold D.plain; exact a1, by unfold D.py PyData.showable; exact a2, by unfold D.py PyData.shown; omega, by unfold D.py PyData.shown; exact t2, by unfold D.py PyData.depth; omega⟩
theorem Sh.ints {l : List Int} (h : ∀ c ∈ l, -1 ≤ c ∧ c < 2402) : ∀ x ∈ l.map D.int, Sh x 4 0 := fun x hx => by
  obtain ⟨c, hc, rfl⟩ := List.mem_map.mp hx
  exact Sh.int (h c hc).1 (h c hc).2
theorem Sh.ti {l : List Int} (h : Rd 100 l) : Sh (ti l) (3 + 6 * l.length) 1 := by
  have := Sh.tup (Sh.ints (l := l) fun c hc => by have := h c hc; omega)
  rw [List.length_map] at this
  exact this
theorem ne_sh {ρ : Rho} {a b : Rho → R D} {d : D} {n t : Nat} (h : a ρ = .ok d) (h2 : b ρ = .ok d) (hs : Sh d n t) (hn : n ≤ 16777216) (ht : t ≤ 60) (self : ∀ s : Str, PyData.strOk s = true → dNe (.str s) (.str s) = .ok (.bl false)) : mTb (mBin dNe (mBi dRepr (mCons a mNil)) (mBi dRepr (mCons b mNil))) ρ = .ok false := by
  obtain ⟨s, e, o⟩ := sh_repr hs hn ht
  exact vTb (vBin (vBi (v1 h) e) (vBi (v1 h2) e) (self s o))
end Y
/-! # S0 -/
set_option Elab.async false
set_option linter.all false
set_option maxRecDepth 100000
set_option maxHeartbeats 4000000
namespace Y
open Po PySem
/-! ### a field whose modulus is told as a list -/
theorem isi2_lst (l : List D) : dIsi2 "list" "tuple" (.lst l) = .ok (.bl true) := by
  have h1 : L2.kitB "list" "list" = some true := by decide +kernel
  have h2 : L2.kitB "list" "tuple" = some false := by decide +kernel
  show (match L2.kitB "list" "list", L2.kitB "list" "tuple" with | some b, some c => R.ok (D.bl (b || c)) | _, _ => .stuck) = _
  rw [h1, h2]
  rfl
namespace K05
theorem e_sequenceL (l : List D) : f_is_sequence [.lst l] = .ok (.bl true) := fun_ok (.ret (d := .bl true) (vUn rfl (isi2_lst l)) rfl)
theorem e_factorsL {p : Int} {w : List Int} (hp0 : 1 < p) (hp1 : p < 100) (mw : Mo p w) (hl : w.length < 900) (hpe : p ^ (w.length - 1) < 1000000) : ∃ L, f_polynomial_factors [.int p, li w] = .ok (tis L) ∧ Fin p w L := by
  have lw := mw.len
  have key : ∃ o, (∃ L, o = .ret (tis L) ∧ Fin p w L) ∧ f_polynomial_factors [.int p, li w] = endM o := by
    refine fun_go (.seq (.par3 (x := .ow []) (y := .sh (ti w)) (z := .sh (.int 1)) rfl rfl rfl ⟨_, rfl, .seq
      (.while (fun n ρ => ∃ fs r d, n + d = w.length + 1 ∧ 1 ≤ d ∧ r.length ≤ w.length ∧ ρ = [.sh (.int p), .sh (li w), .ow (fs.map ti), .sh (ti r), .sh (.int (d : Nat)), .no, .no, .no, .no] ∧ FS p w fs r d 0) w.length ?_ ?_ ?_)⟩))
    · exact ⟨[], w, 1, rfl, Nat.le_refl _, Nat.le_refl _, rfl, .first mw⟩
    · rintro n ρ ⟨fs, r, d, hn, hd, hrl, rfl, s⟩
      have ht : mTb (mBin dLt (mBin dMul (mC (.int 2)) (mVarB 4)) (mBi dLen (mCons (mVarB 3) mNil))) [.sh (.int p), .sh (li w), .ow (fs.map ti), .sh (ti r), .sh (.int (d : Nat)), .no, .no, .no, .no] = .ok (decide (2 * d < r.length)) :=
        vTb (vBin (vBin rfl rfl (z := .int (2 * d : Nat)) (by
          rw [mul_ii (.inl (by decide))]
          congr 2)) (vBi (v1 rfl) (len_ti r)) (lt_nn _ _))
      refine ⟨_, ht, fun hc => ?_⟩
      have hc := of_decide_eq_true hc
      have hpw : p ^ d < 1000000 := Int.lt_of_le_of_lt (pow_mono hp0 (show d ≤ w.length - 1 by omega)) hpe
      have hpn := pow_nat hp0 d
      refine .seq (.for (fun k ρ => ∃ fs r, r.length ≤ w.length ∧ ρ = [.sh (.int p), .sh (li w), .ow (fs.map ti), .sh (ti r), .sh (.int (d : Nat)), .no, .no, .no, .no] ∧ FS p w fs r d k) (xs := rangeD 0 (p ^ d).toNat 1) (r1 (p ^ d).toNat (v1 (vCall (v2 rfl rfl) rfl (by rw [hpn]; exact e_power hp0 hp1 (by omega)))) (by omega)) ?_ ?_ ?_)
      · exact ⟨fs, r, hrl, rfl, s⟩
      · rintro k x ρ hx ⟨fs, r, hrl, rfl, s⟩
        obtain ⟨rfl, hk⟩ := range_mem hx
        rw [show (0 : Int) + (k : Int) = (k : Int) by omega]
        have mg := num_mo hp0 d (k : Int)
        have hgl := num_len p d (k : Int)
        have hg1 : co (num p d (k : Int)) d = 1 := by have := mg.top; rw [hgl, Nat.add_sub_cancel] at this; exact this
        have hk1 : (k : Int) < p ^ d := by omega
        refine ⟨_, rfl, .seq (.set (d := ti (num p d k)) (vCall (vCons rfl (vCons rfl (v1 rfl))) rfl (e_num hp0 hp1 (by omega) (k : Int))) ⟨_, rfl, ?_⟩)⟩
        obtain ⟨q, l, er, dv⟩ := e_rest hp0 hp1 s.mo.rd mg.rd hgl hg1 (by omega : r.length < 1000) (by omega : d < 1000)
        refine .seq (.asg (d := .tup [ti (trim q), ti (trim l)]) (vCall (vCons rfl (vCons rfl (v1 rfl))) rfl er) rfl ⟨_, rfl, ?_⟩)
        refine .seq (.while (fun n ρ => ∃ fs r q l, n = r.length ∧ r.length ≤ w.length ∧ ρ = [.sh (.int p), .sh (li w), .ow (fs.map ti), .sh (ti r), .sh (.int (d : Nat)), .sh (.int k), .sh (ti (num p d k)), .sh (ti (trim q)), .sh (ti (trim l))] ∧ FS p w fs r d k ∧ Div p r (num p d k) d (r.length - d) q l) r.length ⟨fs, r, q, l, rfl, hrl, rfl, s, dv⟩ ?_ ?_)
        · rintro n ρ ⟨fs, r, q, l, rfl, hrl, rfl, s, dv⟩
          refine ⟨_, and_dec (trim l = []) (d + 1 ≤ r.length) (vTb (vBin rfl rfl (eq_tt (trim l) []))) (vTb (vBin (vBi (v1 rfl) (len_ti r)) (vBi (v1 rfl) (by rw [len_ti, hgl])) (ge_nn _ _))), fun hc => ?_⟩
          have hc := of_decide_eq_true hc
          have dd := (dv.left hp0 mg hgl).mp hc.1
          obtain ⟨g1, g2, g3, g4, g5⟩ := dv.quot hp0 s.mo mg hgl dd
          have s2 := s.take hp0 hd (by omega) hk1 dd g3 g4 g1 g5
          have hfs : fs.length ≤ w.length := by
            have h1 := s.deg
            have := len_degs s.irr
            omega
          obtain ⟨q2, l2, er2, dv2⟩ := e_rest hp0 hp1 g3.rd mg.rd hgl hg1 (by omega : q.length < 1000) (by omega : d < 1000)
          refine .seq (.app rfl rfl (by rw [List.length_map]; omega) ⟨_, rfl, .seq (.set rfl ⟨_, rfl, .asg (d := .tup [ti (trim q2), ti (trim l2)]) (vCall (vCons rfl (vCons rfl (v1 rfl))) rfl ?_) rfl ⟨_, q.length, rfl, ?_, _, q, q2, l2, rfl, ?_, ?_, s2, dv2⟩⟩)⟩)
          · rw [g2]; exact er2
          · omega
          · omega
          · rw [List.map_append, g2]
            rfl
        · rintro ρ n ⟨fs, r, q, l, rfl, hrl, rfl, s, dv⟩ hf
          rw [and_dec (trim l = []) (d + 1 ≤ r.length) (vTb (vBin rfl rfl (eq_tt (trim l) []))) (vTb (vBin (vBi (v1 rfl) (len_ti r)) (vBi (v1 rfl) (by rw [len_ti, hgl])) (ge_nn _ _)))] at hf
          have hf := of_decide_eq_false (R.ok.inj hf)
          refine ⟨_, rfl, .no (.no (.no (.no (.skip ⟨_, rfl, fs, r, hrl, rfl, s.skip fun dd => hf ⟨(dv.left hp0 mg hgl).mpr dd, (dv.quot hp0 s.mo mg hgl dd).1⟩⟩))))⟩
      · rintro ρ ⟨fs, r, hrl, rfl, s⟩
        rw [rangeD_len, hpn] at s
        refine ⟨_, rfl, .seq (.aug rfl rfl (iadd1 d) ⟨_, rfl, .no (.no (.no (.no (.skip ⟨_, n - 1, rfl, by omega, fs, r, d + 1, by omega, by omega, hrl, rfl, s.up⟩))))⟩)⟩
    · rintro ρ n ⟨fs, r, d, hn, hd, hrl, rfl, s⟩ hf
      have ht : mTb (mBin dLt (mBin dMul (mC (.int 2)) (mVarB 4)) (mBi dLen (mCons (mVarB 3) mNil))) [.sh (.int p), .sh (li w), .ow (fs.map ti), .sh (ti r), .sh (.int (d : Nat)), .no, .no, .no, .no] = .ok (decide (2 * d < r.length)) :=
        vTb (vBin (vBin rfl rfl (z := .int (2 * d : Nat)) (by
          rw [mul_ii (.inl (by decide))]
          congr 2)) (vBi (v1 rfl) (len_ti r)) (lt_nn _ _))
      rw [ht] at hf
      have hf := of_decide_eq_false (R.ok.inj hf)
      have fin := s.end hp0 (by omega)
      have htt : mTb (mBin dGt (mBi dLen (mCons (mVarB 3) mNil)) (mC (.int 1))) [.sh (.int p), .sh (li w), .ow (fs.map ti), .sh (ti r), .sh (.int (d : Nat)), .no, .no, .no, .no] = .ok (decide (1 < r.length)) :=
        vTb (vBin (vBi (v1 rfl) (len_ti r)) rfl (gt_nn r.length 1))
      by_cases h1 : 1 < r.length
      · rw [if_pos h1] at fin
        rw [decide_eq_true h1] at htt
        have hfs := len_degs s.irr
        have hdg := s.deg
        exact ⟨_, rfl, .ret (d := .tup (fs.map ti ++ [ti r])) (vIfT htt (vTupL (vBin rfl (vFrz (vLst (v1 rfl) (by show 1 ≤ 16777216; decide))) (add_ll (by rw [List.length_map]; show fs.length + 1 ≤ _; omega))))) ⟨fs ++ [r], by unfold tis; rw [List.map_append]; rfl, fin⟩⟩
      · rw [if_neg h1] at fin
        rw [decide_eq_false h1] at htt
        exact ⟨_, rfl, .ret (d := tis fs) (vIfF htt (vTupL rfl)) ⟨_, rfl, fin⟩⟩
  obtain ⟨o, ⟨L, rfl, f⟩, e⟩ := key
  exact ⟨L, e, f⟩
section
variable {p : Int} {k : Nat} {fl : List Int}
theorem e_wrongL (w : Wd p k fl) (irr : Irr p (fl ++ [1])) : f_wrong_modulus [.int p, li (fl ++ [1])] = .ok .non := by
  have hk := k_small w
  have lw := w.len
  have hp1 := w.p1
  obtain ⟨L, eL, fin⟩ := e_factorsL w.p1 w.p2 w.mo (by omega) (by rw [lw, Nat.add_sub_cancel]; have := w.q2; omega)
  have eL1 := (fin.alone w.p1 w.mo (by rw [lw]; have := w.k1; omega)).mpr irr
  subst eL1
  refine fun_ok (.seq (.ifF (vNot (vTt (vCall (v1 rfl) rfl (e_sequenceL _)))) (.skip ⟨_, rfl, .seq (.set (d := .int 1) rfl ⟨_, rfl, .seq (.for (fun i ρ => ρ = [.sh (.int p), .sh (li (fl ++ [1])), .sh (.int (p ^ i)), .no, .no]) (xs := enumD ((fl ++ [1]).map D.int)) rfl (by rw [Int.pow_zero]; rfl) ?_ ?_)⟩)⟩)))
  · rintro i z ρ hz rfl
    obtain ⟨hi, rfl⟩ := en_ints hz
    have rd := w.mo.rd.co w.p0 i
    have pi : p ^ i ≤ 49 := Int.le_trans (K05.pow_mono w.p1 (by omega)) w.q2
    refine ⟨_, rfl, .seq (.ifF (vOr (vNot (vTt (vCall (v2 rfl rfl) rfl (e_below rd.1 rd.2)))) (vOr (vTb (vBin rfl rfl ((gt_ii _ _).trans ?_))) ?_)) (.skip ⟨_, rfl, .seq (.aug rfl rfl (grd_ok (p := small64 _ ∨ small64 p) (.inr (sm64 w.p1 w.p2))) ⟨_, rfl, .no (.no (.skip ⟨_, rfl, ?_⟩))⟩)⟩))⟩
    · rw [decide_eq_false (by omega)]
    · by_cases hik : i = k
      · subst hik
        refine (vAnd (c := false) (vTb (vBin rfl (vBin (vBi (v1 rfl) (len_li _)) rfl (sub1 lw)) ((eq_ii _ _).trans ?_))) (vTb (vBin rfl rfl ((ne_ii _ _).trans ?_))))
        · rw [decide_eq_true rfl]
        · rw [w.top, decide_eq_true rfl]
          rfl
      · refine vAndF (vTb (vBin rfl (vBin (vBi (v1 rfl) (len_li _)) rfl (sub1 lw)) ((eq_ii _ _).trans ?_)))
        rw [decide_eq_false (by omega)]
    · rw [Int.pow_succ]
      rfl
  · rintro ρ rfl
    refine ⟨_, rfl, .seq (.ifF (vOr (vTb (vBin (vBi (v1 rfl) (len_li _)) rfl ((lt_ii _ _).trans ?_))) (vTb (vBin (vBi (v1 (vCall (v2 rfl rfl) rfl eL)) rfl) rfl ((gt_ii _ _).trans ?_)))) (.skip ⟨_, rfl, .ret rfl rfl⟩))⟩
    · have h2 : ¬ (((fl ++ [1]).length : Nat) : Int) < 2 := by rw [lw]; have := w.k1; omega
      rw [decide_eq_false h2]
    · rw [decide_eq_false (by simp)]
end
section
variable {p k g : Nat} {fl : List Int} {L : List Nat}
theorem e_initL (h : Fw p k fl g L) : ∃ M, f_Field___init__ [.int p, li (fl ++ [1])] = .ok (fA p k fl g L M) ∧ Tb L M (p ^ k) := by
  have w := h.w
  have hk := k_small w
  have gn := h.gn
  have q49 := q_le w
  have fin : ∀ m : Nat, 1 ≤ m → m ≤ g → (orow (mm p k fl) m 60 m).length < 60 := fun m m1 m2 => by
    by_cases e : m = g
    · rw [e]; exact gn.fin
    · exact (gn.less m m1 (by omega)).1
  have ln : ∀ m : Nat, 1 ≤ m → m < g → (prow (mm p k fl) m).length < p ^ k - 1 := fun m m1 m2 => by
    have := (gn.less m m1 m2).2
    unfold prow
    rw [List.length_cons]
    exact this
  have lg : (prow (mm p k fl) g).length = p ^ k - 1 := by
    rw [gn.row, List.length_map]
    exact gn.len
  have key : ∃ es, f_Field___init__ [.int p, li (fl ++ [1])] = .ok es ∧ ∃ M, es = fA p k fl g L M ∧ Tb L M (p ^ k) := by
    refine init_go2 (.seq (.ifF (vNot (vTt (vCall (v1 rfl) rfl (e_small h.pr)))) (.skip ⟨_, rfl, .seq (.set (d := .non) (vCall (v2 rfl rfl) rfl (e_wrongL w h.irr)) ⟨_, rfl, .seq (.ifF (vTb (vBin rfl rfl rfl)) (.skip ⟨_, rfl, ?_⟩))⟩)⟩)))
    refine .seq (.self (d := .int p) rfl rfl rfl (by simp) rfl ⟨_, rfl, .seq (.self (d := ti (fl ++ [1])) (vTupL rfl) rfl rfl (by simp) rfl ⟨_, rfl, .seq (.self (d := .int k) (vBin (vBi (v1 rfl) (len_ti _)) rfl (sub1 w.len)) rfl rfl (by simp) rfl ⟨_, rfl, .seq (.self (d := .int ((p ^ k : Nat) : Int)) (vCall (v2 rfl rfl) rfl ?_) rfl rfl (by simp) rfl ⟨_, rfl, ?_⟩)⟩)⟩)⟩)
    · rw [Int.natCast_pow]
      exact e_power w.p1 w.p2 (by omega)
    refine .seq (.self (d := .int (1 : Nat)) rfl rfl rfl (by simp) rfl ⟨_, rfl, .seq (.self (d := ti (prow (mm p k fl) (1 : Nat))) (vMethS rfl rfl rfl (e_powers w [.int ((p ^ k : Nat) : Int), .int (1 : Nat)] (1 : Nat) (fin 1 (Nat.le_refl 1) gn.g1)) (bare_ti _)) rfl rfl (by simp) rfl ⟨_, rfl, ?_⟩)⟩)
    refine .seq (.while (fun n ρ => ∃ m : Nat, ρ = [.me 0 [.int p, ti (fl ++ [1]), .int k, .int ((p ^ k : Nat) : Int), .int m, ti (prow (mm p k fl) m)], .sh (.int p), .sh (li (fl ++ [1])), .sh .non, .no, .no] ∧ 1 ≤ m ∧ m + n = g) (g - 1) ⟨1, rfl, Nat.le_refl 1, by have := gn.g1; omega⟩ ?_ ?_)
    · rintro n ρ ⟨m, rfl, m1, mg⟩
      refine ⟨_, vTb (vBin (vBi (v1 rfl) (len_ti _)) (vBin rfl rfl rfl) (lt_ii _ _)), fun hc => ?_⟩
      have hc := of_decide_eq_true hc
      have mlt : m < g := by
        rcases Nat.lt_or_ge m g with z | z
        · exact z
        · have e : m = g := by omega
          rw [e, lg] at hc
          omega
      refine .seq (.selfAdd (a := m) (b := 1) rfl rfl (by simp) rfl rfl rfl ⟨_, rfl, ?_⟩)
      refine .self (d := ti (prow (mm p k fl) (m + 1 : Nat))) (vMethS rfl (v1 rfl) rfl (e_powers w [.int ((p ^ k : Nat) : Int), .int (m + 1 : Nat), ti (prow (mm p k fl) m)] (m + 1 : Nat) (fin (m + 1) (by omega) mlt)) (bare_ti _)) rfl rfl (by simp) rfl ⟨_, n - 1, rfl, by omega, m + 1, rfl, by omega, by omega⟩
    · rintro ρ n ⟨m, rfl, m1, mg⟩ hf
      have hf2 := (show _ = R.ok (decide (((prow (mm p k fl) m).length : Int) < ((p ^ k : Nat) : Int) - 1)) from vTb (vBin (vBi (v1 rfl) (len_ti _)) (vBin rfl rfl rfl) (lt_ii _ _))).symm.trans hf
      have hf3 := of_decide_eq_false (R.ok.inj hf2)
      have e : m = g := by
        rcases Nat.lt_or_ge m g with z | z
        · have := ln m m1 z
          omega
        · omega
      subst e
      refine ⟨_, rfl, ?_⟩
      rw [gn.row]
      refine .seq (.own (ds := (List.replicate (p ^ k) 0).map D.int) ?_ ⟨_, rfl, ?_⟩)
      · rw [List.map_replicate]
        exact vMulL rfl rfl (by omega)
      refine .seq (.for (fun i ρ => ∃ M s, ρ = [.me 0 [.int p, ti (fl ++ [1]), .int k, .int ((p ^ k : Nat) : Int), .int m, ti (il L)], .sh (.int p), .sh (li (fl ++ [1])), s, .ow (M.map D.int), .no] ∧ (s = .no ∨ s = .sh .non) ∧ M.length = p ^ k ∧ ∀ x, x ∈ L.take i → ∃ j, co M x = (j : Nat) ∧ L[j]? = some x) (xs := enumD ((il L).map D.int)) rfl ⟨List.replicate (p ^ k) 0, .sh .non, rfl, .inr rfl, List.length_replicate, fun x hx => by simp at hx⟩ ?_ ?_)
      · rintro i z ρ hz ⟨M, s, rfl, hs, lM, hM⟩
        obtain ⟨hi, rfl⟩ := en_ints hz
        rw [il_len] at hi
        have hr := gn.rng _ (List.getElem_mem hi)
        refine ⟨_, rfl, .seq (.store (v := .int (i : Nat)) (j := co (il L) i) (n := L[i]) rfl rfl rfl (by rw [il_co hi, li_len]; exact ixN_nat (by omega)) ⟨_, rfl, .no (.no (.skip ⟨_, rfl, M.set L[i] (i : Nat), .no, ?_, .inl rfl, by rw [List.length_set]; exact lM, fun x hx => ?_⟩))⟩)⟩
        · rw [map_set M]
          rfl
        · rw [co_set _ (by omega)]
          by_cases e : x = L[i]
          · rw [if_pos e]
            exact ⟨i, rfl, by rw [e]; exact List.getElem?_eq_getElem hi⟩
          · rw [if_neg e]
            refine hM x ?_
            rw [List.take_succ_eq_append_getElem hi] at hx
            rcases List.mem_append.mp hx with y | y
            · exact y
            · exact absurd (List.mem_singleton.mp y) e
      · rintro ρ ⟨M, s, rfl, hs, lM, hM⟩
        rw [enumD_len, li_len, il_len, List.take_length] at hM
        rcases hs with rfl | rfl
        all_goals refine ⟨_, rfl, .self (d := ti M) (vTupL rfl) rfl rfl (by simp) rfl ⟨_, rfl, M, rfl, lM, hM⟩⟩
  obtain ⟨es, e, M, rfl, t⟩ := key
  exact ⟨M, e, t⟩
end
end K05
end Y
/-! # S2 -/
set_option Elab.async false
set_option linter.all false
set_option maxRecDepth 100000
set_option maxHeartbeats 4000000
namespace Y
open Po PySem
/-! ### rows of elements -/
def iv {p : Int} {k : Nat} {fl : List Int} {w : Wd p k fl} (x : Fe w) : D := .int x.v
def fi {p : Int} {k : Nat} {fl : List Int} {w : Wd p k fl} (l : List (Fe w)) : List Int := l.map Fe.v
section
variable {p : Int} {k : Nat} {fl : List Int} {w : Wd p k fl}
theorem fi_len (l : List (Fe w)) : (fi l).length = l.length := List.length_map ..
theorem fi_int (l : List (Fe w)) : (fi l).map D.int = l.map iv := by unfold fi; rw [List.map_map]; rfl
theorem fi_get (l : List (Fe w)) {i : Nat} (h : i < (fi l).length) : (fi l)[i] = (l[i]'(by rw [fi_len] at h; exact h)).v := List.getElem_map ..
theorem iter_row {d : D} {l : List Int} (h : Row d l) : dIter d = .ok (l.map D.int) := by
  rcases h with rfl | rfl <;> rfl
theorem rev_row {d : D} {l : List Int} (h : Row d l) : dRevI d = .ok (l.map D.int).reverse := by
  rcases h with rfl | rfl <;> rfl
theorem vIterR {ρ : Rho} {m : Rho → R D} {d : D} {l : List Int} (h : m ρ = .ok d) (r : Row d l) : mIter m ρ = .ok (l.map D.int) := by
  unfold mIter
  rw [h]
  exact iter_row r
theorem vRevR {ρ : Rho} {m : Rho → R D} {d : D} {l : List Int} (h : m ρ = .ok d) (r : Row d l) : mRevI m ρ = .ok (l.map D.int).reverse := by
  unfold mRevI
  rw [h]
  exact rev_row r
theorem tupR {ρ : Rho} {m : Rho → R D} {d : D} {l : List Int} (h : m ρ = .ok d) (r : Row d l) : mTupC m ρ = .ok (ti l) := by
  rcases r with rfl | rfl
  · exact vTupT h
  · exact vTupL h
theorem seqR {ρ : Rho} {m : Rho → R D} {d : D} {l : List Int} (h : m ρ = .ok d) (r : Row d l) : mSeqL (mCons m mNil) ρ = .ok (l.map D.int) := by
  unfold mSeqL
  rw [v1 h]
  rcases r with rfl | rfl <;> rfl
theorem starL {ρ : Rho} {m : Rho → R D} {mr : Rho → R (List D)} {xs ys : List D} (h : m ρ = .ok (.lst xs)) (h2 : mr ρ = .ok ys) : mStar m mr ρ = .ok (xs ++ ys) := by
  unfold mStar
  rw [h]
  show (mr ρ).bind _ = _
  rw [h2]
  rfl
theorem zipF_len {α : Type} (F : α → D) (l m : List α) : (zipD (l.map F) (m.map F)).length = min l.length m.length := by rw [zipD_len, List.length_map, List.length_map]
theorem cLoop_zipF {b : Bnd} {e : Rho → R D} {ρ : Rho} {g : Fe w → Fe w → Fe w} (h : ∀ x y : Fe w, ∃ ρ1, b (.tup [iv x, iv y]) ρ = some ρ1 ∧ e ρ1 = .ok (iv (g x y))) : ∀ (l m : List (Fe w)), cLoop b mYes e ρ (zipD (l.map iv) (m.map iv)) = .ok ((List.zipWith g l m).map iv)
  | [], m => by simp [zipD, cLoop]
  | x :: l, [] => by simp [zipD, cLoop]
  | x :: l, y :: m => by
    obtain ⟨ρ1, h1, h2⟩ := h x y
    have ih := cLoop_zipF h l m
    have ez : zipD ((x :: l).map iv) ((y :: m).map iv) = .tup [iv x, iv y] :: zipD (l.map iv) (m.map iv) := rfl
    rw [ez, cLoop, h1]
    show (mYes ρ1).nb _ = _
    show (if true = true then (e ρ1).nb fun d => (cLoop b mYes e ρ (zipD (l.map iv) (m.map iv))).bind fun ds => .ok (d :: ds) else cLoop b mYes e ρ (zipD (l.map iv) (m.map iv))) = _
    rw [if_pos rfl, h2, R.nb_ok, ih]
    rfl
theorem drop_back {α : Type} {l : List α} {i : Nat} (hi : i < l.length) : l.drop (l.length - (i + 1)) = l[l.length - 1 - i]'(by omega) :: l.drop (l.length - i) := by
  rw [List.drop_eq_getElem_cons (by omega)]
  congr 2
  all_goals omega
end
namespace K05
section
variable {p k g : Nat} {fl : List Int} {L : List Nat} {M : List Int}
theorem l_times (w : Wd p k fl) (x y : Fe w) : f_l_times [wD p fl, .int x.v, .int y.v] = .ok (.int (x * y).v) := e_ltimes w x.v y.v
theorem l_plus (w : Wd p k fl) (x y : Fe w) : f_l_plus [wD p fl, .int x.v, .int y.v] = .ok (.int (x + y).v) := e_lplus w x.v y.v
end
end K05
end Y
/-! # T1 -/
set_option Elab.async false
set_option linter.all false
set_option maxRecDepth 100000
set_option maxHeartbeats 4000000
namespace Y
open Po PySem
/-! ### lists without repetition -/
theorem len_sub {α : Type} : ∀ {l L : List α}, l.Nodup → (∀ x ∈ l, x ∈ L) → l.length ≤ L.length
  | [], L, _, _ => Nat.zero_le _
  | x :: l, L, nd, h => by
    obtain ⟨n1, n2⟩ := List.nodup_cons.mp nd
    obtain ⟨s, t, rfl⟩ := List.append_of_mem (h x List.mem_cons_self)
    have ih := len_sub (l := l) (L := s ++ t) n2 fun y hy => by
      have := h y (List.mem_cons_of_mem _ hy)
      rcases List.mem_append.mp this with z | z
      · exact List.mem_append_left _ z
      · rcases List.mem_cons.mp z with e | e
        · rw [e] at hy; exact absurd hy n1
        · exact List.mem_append_right _ e
    rw [List.length_append] at ih
    rw [List.length_append, List.length_cons, List.length_cons]
    omega
theorem sub_back {α : Type} {l L : List α} (nd : l.Nodup) (h : ∀ x ∈ l, x ∈ L) (nL : L.Nodup) (hl : L.length ≤ l.length) : ∀ x ∈ L, x ∈ l := fun x hx => by
  refine Classical.byContradiction fun hn => ?_
  have := len_sub (l := x :: l) (L := L) (List.nodup_cons.mpr ⟨hn, nd⟩) fun y hy => by
    rcases List.mem_cons.mp hy with e | e
    · rw [e]; exact hx
    · exact h y e
  rw [List.length_cons] at this
  omega
/-! ### rows of elements -/
section
variable {p : Int} {k : Nat} {fl : List Int} {w : Wd p k fl}
theorem mem_fi {l : List (Fe w)} {x : Fe w} : x.v ∈ fi l ↔ x ∈ l := ⟨fun h => by
  obtain ⟨y, hy, e⟩ := List.mem_map.mp h
  rw [← Fe.eq e]; exact hy, fun h => List.mem_map.mpr ⟨x, h, rfl⟩⟩
def ins (row : List (Fe w)) (y : Fe w) : List (Fe w) := if y.v ∈ fi row then row else row ++ [y]
theorem mem_ins {row : List (Fe w)} {y z : Fe w} : z ∈ ins row y ↔ z ∈ row ∨ z = y := by
  unfold ins
  by_cases h : y.v ∈ fi row
  · rw [if_pos h]
    exact ⟨.inl, fun q => q.elim id fun e => by rw [e]; exact mem_fi.mp h⟩
  · rw [if_neg h, List.mem_append, List.mem_singleton]
theorem nd_ins {row : List (Fe w)} {y : Fe w} (nd : row.Nodup) : (ins row y).Nodup := by
  unfold ins
  by_cases h : y.v ∈ fi row
  · rw [if_pos h]; exact nd
  · rw [if_neg h]
    exact List.nodup_append.mpr ⟨nd, List.nodup_cons.mpr ⟨List.not_mem_nil, List.nodup_nil⟩, fun a ha b hb e => by
      rw [List.mem_singleton.mp hb] at e
      exact h (mem_fi.mpr (by rw [← e]; exact ha))⟩
theorem pre_ins (row : List (Fe w)) (y : Fe w) : ∃ t, ins row y = row ++ t := by
  unfold ins
  by_cases h : y.v ∈ fi row
  · rw [if_pos h]; exact ⟨[], (List.append_nil _).symm⟩
  · rw [if_neg h]; exact ⟨[y], rfl⟩
theorem fi_nd {l : List (Fe w)} (nd : l.Nodup) : (fi l).Nodup := by
  unfold fi
  rw [List.Nodup, List.pairwise_map]
  exact nd.imp fun h e => h (Fe.eq e)
theorem row_len {l : List (Fe w)} (nd : l.Nodup) : l.length ≤ 49 := by
  have h := len_sub (l := fi l) (L := (List.range 49).map fun (i : Nat) => (i : Int)) (fi_nd nd) fun x hx => by
    obtain ⟨y, _, rfl⟩ := List.mem_map.mp hx
    have h1 := y.el.1
    have h2 := y.el.2
    have h3 := w.q2
    exact List.mem_map.mpr ⟨y.v.toNat, List.mem_range.mpr (by omega), Int.toNat_of_nonneg h1⟩
  rw [fi_len, List.length_map, List.length_range] at h
  exact h
/-- sorted rows -/
def fs (l : List (Fe w)) : List Int := srt (fi l)
theorem fs_mem {l : List (Fe w)} {c : Int} : c ∈ fs l ↔ c ∈ fi l := (srt_perm (fi l)).mem_iff
theorem fs_len (l : List (Fe w)) : (fs l).length = l.length := by
  unfold fs
  rw [(srt_perm (fi l)).length_eq, fi_len]
theorem fs_rd (l : List (Fe w)) : Rd 100 (fs l) := fun c hc => by
  obtain ⟨y, _, rfl⟩ := List.mem_map.mp (fs_mem.mp hc)
  have h1 := y.el.1
  have h2 := y.el.2
  have h3 := w.q2
  omega
/-- an increasing row with the same members -/
theorem fs_eq {l : List (Fe w)} {ms : List Int} (nd : l.Nodup) (h : ∀ c, c ∈ ms ↔ c ∈ fi l) (s : ms.Pairwise (· < ·)) : fs l = ms := by
  have nm : ms.Nodup := s.imp fun h e => by rw [e] at h; exact Int.lt_irrefl _ h
  have p : ms.Perm (fi l) := by
    exact (List.perm_ext_iff_of_nodup nm (fi_nd nd)).mpr h
  exact (srt_uniq p (s.imp fun h => Int.le_of_lt h)).symm
/-! ### products, grown -/
def pin (x : Fe w) (els row : List (Fe w)) : List (Fe w) := els.foldl (fun r e => ins r (x * e)) row
def prun : Nat → List (Fe w) → List (Fe w) → Nat → List (Fe w)
  | 0, _, row, _ => row
  | n + 1, els, row, a => match row[a]? with
    | some x => prun n els (pin x els row) (a + 1)
    | none => row
inductive Pr (els : List (Fe w)) : Fe w → Prop where
  | one : Pr els 1
  | mul {x e : Fe w} : Pr els x → e ∈ els → Pr els (x * e)
theorem mem_pin {x z : Fe w} : ∀ {els row : List (Fe w)}, z ∈ pin x els row ↔ z ∈ row ∨ ∃ e ∈ els, z = x * e
  | [], row => ⟨.inl, fun h => h.elim id fun ⟨e, he, _⟩ => absurd he List.not_mem_nil⟩
  | e :: els, row => by
    have ih := mem_pin (x := x) (z := z) (els := els) (row := ins row (x * e))
    rw [show pin x (e :: els) row = pin x els (ins row (x * e)) from rfl, ih, mem_ins]
    constructor
    · rintro ((h | h) | ⟨f, hf, h⟩)
      · exact .inl h
      · exact .inr ⟨e, List.mem_cons_self, h⟩
      · exact .inr ⟨f, List.mem_cons_of_mem _ hf, h⟩
    · rintro (h | ⟨f, hf, h⟩)
      · exact .inl (.inl h)
      · rcases List.mem_cons.mp hf with q | q
        · rw [q] at h; exact .inl (.inr h)
        · exact .inr ⟨f, q, h⟩
theorem nd_pin {x : Fe w} : ∀ {els row : List (Fe w)}, row.Nodup → (pin x els row).Nodup
  | [], _, h => h
  | e :: els, row, h => nd_pin (els := els) (nd_ins h)
theorem pre_pin (x : Fe w) : ∀ els row : List (Fe w), ∃ t, pin x els row = row ++ t
  | [], row => ⟨[], (List.append_nil _).symm⟩
  | e :: els, row => by
    obtain ⟨t, ht⟩ := pre_ins row (x * e)
    obtain ⟨u, hu⟩ := pre_pin x els (ins row (x * e))
    exact ⟨t ++ u, by rw [show pin x (e :: els) row = pin x els (ins row (x * e)) from rfl, hu, ht, List.append_assoc]⟩
structure PI (els row : List (Fe w)) (a : Nat) : Prop where
  nd : row.Nodup
  one : 1 ∈ row
  pr : ∀ x ∈ row, Pr els x
  cl : ∀ i, i < a → ∀ x, row[i]? = some x → ∀ e ∈ els, x * e ∈ row
  le : a ≤ row.length
structure PO (els R : List (Fe w)) : Prop where
  nd : R.Nodup
  mem : ∀ x, x ∈ R ↔ Pr els x
theorem PI.next {els row : List (Fe w)} {a : Nat} {x : Fe w} (s : PI els row a) (hx : row[a]? = some x) : PI els (pin x els row) (a + 1) := by
  obtain ⟨t, ht⟩ := pre_pin x els row
  have ha := (List.getElem?_eq_some_iff.mp hx).1
  refine ⟨nd_pin s.nd, mem_pin.mpr (.inl s.one), fun z hz => ?_, fun i hi z hz e he => ?_, by rw [ht, List.length_append]; omega⟩
  · rcases mem_pin.mp hz with q | ⟨e, he, rfl⟩
    · exact s.pr z q
    · exact .mul (s.pr x (List.mem_of_getElem? hx)) he
  · rw [ht, List.getElem?_append_left (by omega)] at hz
    rcases Nat.lt_or_ge i a with q | q
    · exact mem_pin.mpr (.inl (s.cl i q z hz e he))
    · have : i = a := by omega
      subst this
      rw [hx] at hz
      cases hz
      exact mem_pin.mpr (.inr ⟨e, he, rfl⟩)
theorem PI.end {els row : List (Fe w)} {a : Nat} (s : PI els row a) (hx : row[a]? = none) : PO els row := by
  have ha := List.getElem?_eq_none_iff.mp hx
  refine ⟨s.nd, fun x => ⟨s.pr x, fun h => ?_⟩⟩
  induction h with
  | one => exact s.one
  | mul h he ih =>
    obtain ⟨i, hi⟩ := List.mem_iff_getElem?.mp ih
    have := (List.getElem?_eq_some_iff.mp hi).1
    exact s.cl i (by omega) _ hi _ he
theorem prun_ok {els : List (Fe w)} : ∀ (n : Nat) (row : List (Fe w)) (a : Nat), 50 ≤ n + a → PI els row a → PO els (prun n els row a)
  | 0, row, a, h, s => by
    have := row_len s.nd
    have := s.le
    omega
  | n + 1, row, a, h, s => by
    unfold prun
    cases hx : row[a]? with
    | none => exact s.end hx
    | some x => exact prun_ok n _ (a + 1) (by omega) (s.next hx)
theorem PI.first (els : List (Fe w)) : PI els [1] 0 := ⟨List.nodup_cons.mpr ⟨List.not_mem_nil, List.nodup_nil⟩, List.mem_cons_self, fun x hx => by rw [List.mem_singleton.mp hx]; exact .one, fun i hi => absurd hi (Nat.not_lt_zero i), Nat.zero_le _⟩
/-- sums and products of two found so far -/
def gin (x : Fe w) (ones row : List (Fe w)) : List (Fe w) := ones.foldl (fun r o => ins (ins r (x + o)) (x * o)) row
def grun : Nat → List (Fe w) → Nat → List (Fe w)
  | 0, row, _ => row
  | n + 1, row, a => match row[a]? with
    | some x => grun n (gin x (row.take (a + 1)) row) (a + 1)
    | none => row
inductive Gr (els : List (Fe w)) : Fe w → Prop where
  | base {x : Fe w} : x ∈ els → Gr els x
  | add {x y : Fe w} : Gr els x → Gr els y → Gr els (x + y)
  | mul {x y : Fe w} : Gr els x → Gr els y → Gr els (x * y)
theorem mem_gin {x z : Fe w} : ∀ {ones row : List (Fe w)}, z ∈ gin x ones row ↔ z ∈ row ∨ ∃ o ∈ ones, z = x + o ∨ z = x * o
  | [], row => ⟨.inl, fun h => h.elim id fun ⟨e, he, _⟩ => absurd he List.not_mem_nil⟩
  | e :: ones, row => by
    have ih := mem_gin (x := x) (z := z) (ones := ones) (row := ins (ins row (x + e)) (x * e))
    rw [show gin x (e :: ones) row = gin x ones (ins (ins row (x + e)) (x * e)) from rfl, ih, mem_ins, mem_ins]
    constructor
    · rintro (((h | h) | h) | ⟨f, hf, h⟩)
      · exact .inl h
      · exact .inr ⟨e, List.mem_cons_self, .inl h⟩
      · exact .inr ⟨e, List.mem_cons_self, .inr h⟩
      · exact .inr ⟨f, List.mem_cons_of_mem _ hf, h⟩
    · rintro (h | ⟨f, hf, h⟩)
      · exact .inl (.inl (.inl h))
      · rcases List.mem_cons.mp hf with q | q
        · rw [q] at h
          rcases h with h | h
          · exact .inl (.inl (.inr h))
          · exact .inl (.inr h)
        · exact .inr ⟨f, q, h⟩
theorem nd_gin {x : Fe w} : ∀ {ones row : List (Fe w)}, row.Nodup → (gin x ones row).Nodup
  | [], _, h => h
  | e :: ones, row, h => nd_gin (ones := ones) (nd_ins (nd_ins h))
theorem pre_gin (x : Fe w) : ∀ ones row : List (Fe w), ∃ t, gin x ones row = row ++ t
  | [], row => ⟨[], (List.append_nil _).symm⟩
  | e :: ones, row => by
    obtain ⟨t, ht⟩ := pre_ins row (x + e)
    obtain ⟨t2, ht2⟩ := pre_ins (ins row (x + e)) (x * e)
    obtain ⟨u, hu⟩ := pre_gin x ones (ins (ins row (x + e)) (x * e))
    exact ⟨t ++ (t2 ++ u), by rw [show gin x (e :: ones) row = gin x ones (ins (ins row (x + e)) (x * e)) from rfl, hu, ht2, ht, List.append_assoc, List.append_assoc]⟩
structure GI (els row : List (Fe w)) (a : Nat) : Prop where
  nd : row.Nodup
  base : ∀ x ∈ els, x ∈ row
  pr : ∀ x ∈ row, Gr els x
  cl : ∀ i j, i < a → j < a → ∀ x y, row[i]? = some x → row[j]? = some y → x + y ∈ row ∧ x * y ∈ row
  le : a ≤ row.length
structure GO (els R : List (Fe w)) : Prop where
  nd : R.Nodup
  mem : ∀ x, x ∈ R ↔ Gr els x
theorem GI.next {els row : List (Fe w)} {a : Nat} {x : Fe w} (s : GI els row a) (hx : row[a]? = some x) : GI els (gin x (row.take (a + 1)) row) (a + 1) := by
  obtain ⟨t, ht⟩ := pre_gin x (row.take (a + 1)) row
  have ha := (List.getElem?_eq_some_iff.mp hx).1
  have hx' := s.pr x (List.mem_of_getElem? hx)
  have old : ∀ i, i < a + 1 → ∀ z, (gin x (row.take (a + 1)) row)[i]? = some z → row[i]? = some z := fun i hi z hz => by
    rw [ht, List.getElem?_append_left (by omega)] at hz
    exact hz
  have two : ∀ i, i < a + 1 → ∀ y, row[i]? = some y → x + y ∈ gin x (row.take (a + 1)) row ∧ x * y ∈ gin x (row.take (a + 1)) row := fun i hi y hy => by
    have hm : y ∈ row.take (a + 1) := List.mem_of_getElem? (i := i) (by rw [List.getElem?_take_of_lt hi]; exact hy)
    exact ⟨mem_gin.mpr (.inr ⟨y, hm, .inl rfl⟩), mem_gin.mpr (.inr ⟨y, hm, .inr rfl⟩)⟩
  refine ⟨nd_gin s.nd, fun z hz => mem_gin.mpr (.inl (s.base z hz)), fun z hz => ?_, fun i j hi hj y z hy hz => ?_, by rw [ht, List.length_append]; omega⟩
  · rcases mem_gin.mp hz with q | ⟨o, ho, rfl | rfl⟩
    · exact s.pr z q
    · exact .add hx' (s.pr o (List.mem_of_mem_take ho))
    · exact .mul hx' (s.pr o (List.mem_of_mem_take ho))
  · replace hy := old i hi y hy
    replace hz := old j hj z hz
    by_cases ci : i = a
    · subst ci
      rw [hx] at hy
      cases hy
      exact two j hj z hz
    · by_cases cj : j = a
      · subst cj
        rw [hx] at hz
        cases hz
        have e1 : y + x = x + y := by grind
        have e2 : y * x = x * y := by grind
        rw [e1, e2]
        exact two i hi y hy
      · have := s.cl i j (by omega) (by omega) y z hy hz
        exact ⟨mem_gin.mpr (.inl this.1), mem_gin.mpr (.inl this.2)⟩
theorem GI.end {els row : List (Fe w)} {a : Nat} (s : GI els row a) (hx : row[a]? = none) : GO els row := by
  have ha := List.getElem?_eq_none_iff.mp hx
  refine ⟨s.nd, fun x => ⟨s.pr x, fun h => ?_⟩⟩
  have two : ∀ x y, x ∈ row → y ∈ row → x + y ∈ row ∧ x * y ∈ row := fun x y hx hy => by
    obtain ⟨i, hi⟩ := List.mem_iff_getElem?.mp hx
    obtain ⟨j, hj⟩ := List.mem_iff_getElem?.mp hy
    have := (List.getElem?_eq_some_iff.mp hi).1
    have := (List.getElem?_eq_some_iff.mp hj).1
    exact s.cl i j (by omega) (by omega) x y hi hj
  induction h with
  | base h => exact s.base _ h
  | add _ _ i1 i2 => exact (two _ _ i1 i2).1
  | mul _ _ i1 i2 => exact (two _ _ i1 i2).2
theorem grun_ok {els : List (Fe w)} : ∀ (n : Nat) (row : List (Fe w)) (a : Nat), 50 ≤ n + a → GI els row a → GO els (grun n row a)
  | 0, row, a, h, s => by
    have := row_len s.nd
    have := s.le
    omega
  | n + 1, row, a, h, s => by
    unfold grun
    cases hx : row[a]? with
    | none => exact s.end hx
    | some x => exact grun_ok n _ (a + 1) (by omega) (s.next hx)
theorem GI.first {els : List (Fe w)} (nd : els.Nodup) : GI els els 0 := ⟨nd, fun _ h => h, fun x hx => .base hx, fun i j hi => absurd hi (Nat.not_lt_zero i), Nat.zero_le _⟩
end
end Y
/-! # S3 -/
set_option Elab.async false
set_option linter.all false
set_option maxRecDepth 100000
set_option maxHeartbeats 4000000
namespace Ft
open Lean.Grind
variable {α : Type} [CommRing α]
theorem sub_self' (a : α) : a - a = 0 := by grind
theorem pow_mul' (a b : α) : ∀ n : Nat, (a * b) ^ n = a ^ n * b ^ n
  | 0 => by rw [Semiring.pow_zero, Semiring.pow_zero, Semiring.pow_zero]; grind
  | n + 1 => by rw [Semiring.pow_succ, Semiring.pow_succ, Semiring.pow_succ, pow_mul' a b n]; grind
theorem pow_one' : ∀ n : Nat, (1 : α) ^ n = 1
  | 0 => Semiring.pow_zero 1
  | n + 1 => by rw [Semiring.pow_succ, pow_one' n]; grind
theorem pow_ne' (hz : ∀ a b : α, a * b = 0 → a = 0 ∨ b = 0) (h1 : (1 : α) ≠ 0) {a : α} : ∀ n : Nat, a ^ n = 0 → a = 0
  | 0, h => by rw [Semiring.pow_zero] at h; exact absurd h h1
  | n + 1, h => by
    rw [Semiring.pow_succ] at h
    rcases hz _ _ h with q | q
    · exact pow_ne' hz h1 n q
    · exact q
/-- t ^ (m + 2) - t -/
def frow (m : Nat) : List α := 0 :: (0 - 1) :: (List.replicate m 0 ++ [1])
theorem frow_len (m : Nat) : (frow m : List α).length = m + 3 := by simp [frow]
theorem frow_pe (m : Nat) (y : α) : pe (frow m) y = y ^ (m + 2) - y := by
  unfold frow
  simp only [pe, pe_app, pe_zeros, List.length_replicate]
  rw [Semiring.pow_succ, Semiring.pow_succ]
  grind
theorem frow_last (m : Nat) : (1 : α) ∈ (frow m : List α) := by simp [frow]
end Ft
namespace Y
open Po PySem Lean.Grind
namespace K05
section
variable {p k g : Nat} {fl : List Int} {L : List Nat}
theorem fe_one_ne (w : Wd p k fl) : (1 : Fe w) ≠ 0 := fun e => by
  have := congrArg Fe.v e
  rw [Fe.one_v, Fe.zero_v] at this
  cases this
theorem fe_dom (h : Fw p k fl g L) (a b : Fe h.w) (e : a * b = 0) : a = 0 ∨ b = 0 := by
  by_cases ha : a = 0
  · exact .inl ha
  · by_cases hb : b = 0
    · exact .inr hb
    · exfalso
      have na : a.v ≠ 0 := fun z => ha (Fe.eq (by rw [z, Fe.zero_v]))
      have nb : b.v ≠ 0 := fun z => hb (Fe.eq (by rw [z, Fe.zero_v]))
      refine h.mm_ne a.el b.el na nb ?_
      have := congrArg Fe.v e
      rw [Fe.zero_v] at this
      exact this
/-- all elements: to the power q they stay -/
theorem fe_q (h : Fw p k fl g L) (x : Fe h.w) : x ^ (p ^ k) = x := by
  refine Fe.eq ?_
  show pw p k fl x.v (p ^ k) = x.v
  have q2 := h.q2
  by_cases z : x.v = 0
  · rw [z, pw_zero h.w (by omega)]
  · obtain ⟨j, hj, e⟩ := h.pow_of x.el z
    have h1 := h.pows.2
    rw [e, pw_mul h.w, pw_mod h.w h1 (j * p ^ k)]
    have e2 : j * p ^ k % (p ^ k - 1) = j := by
      have : j * p ^ k = j + (p ^ k - 1) * j := by
        have e3 : p ^ k = (p ^ k - 1) + 1 := by omega
        generalize p ^ k - 1 = m at *
        rw [e3, Nat.mul_add, Nat.mul_one, Nat.mul_comm m j, Nat.add_comm]
      rw [this, Nat.add_mul_mod_self_left, Nat.mod_eq_of_lt hj]
    rw [e2]
/-- to the power p: keeps sums, if the size is one of the table -/
def ph (w : Wd p k fl) : Fe w → Fe w := fun a => a ^ p
theorem ph_hm (h : Fw p k fl g L) (s : Sz p k) : Ft.Hm (ph h.w) := by
  refine ⟨fun a b => ?_, fun a b => Ft.pow_mul' a b p, Ft.pow_one' p⟩
  rcases s.ok.2.1 with rfl | h2
  · have e := fe_q h
    simp only [Nat.pow_one] at e
    show (a + b) ^ p = a ^ p + b ^ p
    rw [e, e, e]
  · refine Fe.eq (frob1 h.w (n := p) ?_ a.v b.v)
    rcases sizes_two (p, k) h2 with q | q | q | q
    · exact .inl ⟨by simp only at q; omega, q⟩
    · exact .inr (.inl ⟨by simp only at q; omega, q⟩)
    · exact .inr (.inr (.inl ⟨by simp only at q; omega, q⟩))
    · exact .inr (.inr (.inr ⟨by simp only at q; omega, q⟩))
theorem ph_inj (h : Fw p k fl g L) (s : Sz p k) (a b : Fe h.w) (e : ph h.w a = ph h.w b) : a = b := by
  have hs := (ph_hm h s).sub a b
  have e0 : (a - b) ^ p = 0 := by
    show ph h.w (a - b) = 0
    rw [hs, e]
    grind
  have := Ft.pow_ne' (fe_dom h) (fe_one_ne h.w) p e0
  grind
theorem ph_it (w : Wd p k fl) (x : Fe w) : ∀ i, Ft.it (ph w) i x = x ^ (p ^ i)
  | 0 => by
    rw [Nat.pow_zero]
    exact Fe.eq (pw_one w x.el).symm
  | i + 1 => by
    show (Ft.it (ph w) i x) ^ p = _
    rw [ph_it w x i]
    refine Fe.eq ?_
    show pw p k fl (pw p k fl x.v (p ^ i)) p = pw p k fl x.v (p ^ (i + 1))
    rw [pw_mul w, Nat.pow_succ]
theorem ph_k (h : Fw p k fl g L) (x : Fe h.w) : Ft.it (ph h.w) k x = x := (ph_it h.w x k).trans (fe_q h x)
theorem ph_nat (h : Fw p k fl g L) (s : Sz p k) : ∀ n : Nat, ph h.w (fz h.w (n : Int)) = fz h.w (n : Int)
  | 0 => (ph_hm h s).zero
  | n + 1 => by
    have e : fz h.w ((n + 1 : Nat) : Int) = fz h.w (n : Int) + 1 := by
      rw [Int.natCast_succ, fz_add]
      rfl
    rw [e, (ph_hm h s).add, ph_nat h s n, (ph_hm h s).one]
theorem fz_self (w : Wd p k fl) {c : Int} (h0 : 0 ≤ c) (h1 : c < p) : (fz w c).v = c := Int.emod_eq_of_lt h0 h1
/-- what stays to the power p is a number below p -/
theorem fixed_small (h : Fw p k fl g L) (s : Sz p k) {c : Fe h.w} (e : ph h.w c = c) : c.v < p := by
  refine Classical.byContradiction fun hn => ?_
  have hp2 := s.ok.2.2.1
  obtain ⟨m, rfl⟩ : ∃ m, p = m + 2 := ⟨p - 2, by omega⟩
  have hr : ∀ r ∈ c :: (List.range (m + 2)).map (fun i : Nat => fz h.w (i : Int)), Ft.pe (Ft.frow m) r = 0 := fun r hr => by
    rw [Ft.frow_pe]
    have : r ^ (m + 2) = r := by
      rcases List.mem_cons.mp hr with q | q
      · rw [q]; exact e
      · obtain ⟨i, _, rfl⟩ := List.mem_map.mp q
        exact ph_nat h s i
    rw [this]
    exact Ft.sub_self' r
  have nd : (c :: (List.range (m + 2)).map (fun i : Nat => fz h.w (i : Int))).Nodup := by
    refine List.nodup_cons.mpr ⟨fun hc => ?_, ?_⟩
    · obtain ⟨i, hi, e2⟩ := List.mem_map.mp hc
      have hi := List.mem_range.mp hi
      have : (fz h.w (i : Int)).v = i := fz_self h.w (by omega) (by omega)
      rw [e2] at this
      omega
    · rw [List.Nodup, List.pairwise_map]
      refine List.Pairwise.imp_of_mem ?_ (List.pairwise_lt_range (n := m + 2))
      intro a b ha hb hab e2
      have ha := List.mem_range.mp ha
      have hb := List.mem_range.mp hb
      have e3 := congrArg Fe.v e2
      rw [fz_self h.w (by omega) (by omega), fz_self h.w (by omega) (by omega)] at e3
      omega
  have all := Ft.roots_all (fe_dom h) (m + 3) (Ft.frow m) _ (Ft.frow_len m) nd hr (by rw [List.length_cons, List.length_map, List.length_range]; omega)
  exact fe_one_ne h.w (all 1 (Ft.frow_last m))
/-- the product of t less all conjugates of x, its members as numbers -/
def lp (w : Wd p k fl) (x : Fe w) (d : Nat) : List Int := fi (Ft.Gs (ph w) x d)
theorem lp_len (w : Wd p k fl) (x : Fe w) (d : Nat) : (lp w x d).length = d + 1 := by
  unfold lp
  rw [fi_len, Ft.Gs_len]
theorem lp_fix (h : Fw p k fl g L) (s : Sz p k) {x : Fe h.w} {d : Nat} (e : Ft.it (ph h.w) (d + 1) x = x) {c : Fe h.w} (hc : c ∈ Ft.Gs (ph h.w) x (d + 1)) : ph h.w c = c := by
  have hm := Ft.Gs_fix (ph_hm h s) e
  obtain ⟨i, hi, rfl⟩ := List.mem_iff_getElem.mp hc
  have := congrArg (fun l => l[i]?) hm
  simp only [List.getElem?_map, List.getElem?_eq_getElem hi, Option.map_some] at this
  exact Option.some.inj this
theorem lp_rd (h : Fw p k fl g L) (s : Sz p k) {x : Fe h.w} {d : Nat} (e : Ft.it (ph h.w) (d + 1) x = x) : Rd p (lp h.w x (d + 1)) := fun c hc => by
  obtain ⟨a, ha, rfl⟩ := List.mem_map.mp hc
  exact ⟨a.el.1, fixed_small h s (lp_fix h s e ha)⟩
theorem lp_top (w : Wd p k fl) (x : Fe w) (d : Nat) : co (lp w x d) ((lp w x d).length - 1) = 1 := by
  have hl := Ft.Gs_last (ph w) d x
  rw [List.getLast?_eq_getElem?] at hl
  unfold lp co
  rw [fi_len, List.getD_eq_getElem?_getD]
  unfold fi
  rw [List.getElem?_map, hl]
  exact Fe.one_v
theorem lp_mo (h : Fw p k fl g L) (s : Sz p k) {x : Fe h.w} {d : Nat} (e : Ft.it (ph h.w) (d + 1) x = x) : Mo p (lp h.w x (d + 1)) :=
  ⟨lp_rd h s e, (fun z => by have := lp_len h.w x (d + 1); rw [z] at this; cases this), lp_top h.w x (d + 1)⟩
theorem lp_pz (h : Fw p k fl g L) (s : Sz p k) {x : Fe h.w} {d : Nat} (e : Ft.it (ph h.w) (d + 1) x = x) : pz h.w (lp h.w x (d + 1)) x = 0 := by
  have em : (lp h.w x (d + 1)).map (fz h.w) = Ft.Gs (ph h.w) x (d + 1) := by
    unfold lp fi
    rw [List.map_map]
    refine (List.map_congr_left (g := id) fun a ha => ?_).trans (List.map_id _)
    refine Fe.eq (fz_self h.w a.el.1 (fixed_small h s (lp_fix h s e ha)))
  unfold pz
  rw [em]
  exact Ft.Gs_zero _ d x
/-- no short monic row is zero at x -/
theorem mo_nz (h : Fw p k fl g L) (s : Sz p k) {x : Fe h.w} {d : Nat} (least : ∀ m, 1 ≤ m → m < d → Ft.it (ph h.w) m x ≠ x) {m : List Int} (mo : Mo p m) (hl : m.length ≤ d) : pz h.w m x ≠ 0 := fun z => by
  have all := Ft.conj_all (fe_dom h) (ph_hm h s) (ph_inj h s) least (l := m.map (fz h.w)) (by
    rw [List.map_map]
    refine List.map_congr_left fun c hc => ?_
    have := mo.rd c hc
    obtain ⟨n, rfl⟩ : ∃ n : Nat, c = n := ⟨c.toNat, by omega⟩
    exact ph_nat h s n) z (by rw [List.length_map]; exact hl)
  have h1 : (1 : Int) ∈ m := by
    have t := mo.top
    have ne : m.length - 1 < m.length := by have := mo.len; omega
    rw [co_get ne] at t
    rw [← t]
    exact List.getElem_mem ne
  exact fe_one_ne h.w (all _ (List.mem_map.mpr ⟨1, h1, rfl⟩))
end
end K05
end Y
/-! # T2 -/
set_option Elab.async false
set_option linter.all false
set_option maxRecDepth 100000
set_option maxHeartbeats 4000000
/-! ### a whole multiple sum that is the common divisor -/
theorem bez (a b : Nat) : ∃ u v : Int, u * a + v * b = (Nat.gcd a b : Nat) := by
  induction a, b using Nat.gcd.induction with
  | H0 n => exact ⟨0, 1, by rw [Nat.gcd_zero_left]; omega⟩
  | H1 m n hm ih =>
    obtain ⟨u, v, e⟩ := ih
    refine ⟨v - u * ((n / m : Nat) : Int), u, ?_⟩
    rw [Nat.gcd_rec m n, ← e]
    have h : (n : Int) = (m : Int) * ((n / m : Nat) : Int) + ((n % m : Nat) : Int) := by
      have := Nat.div_add_mod n m
      rw [← Int.natCast_mul, ← Int.natCast_add, this]
    generalize ((n / m : Nat) : Int) = q at *
    generalize ((n % m : Nat) : Int) = r at *
    rw [h]
    grind
theorem bez_mod {m : Nat} (hm : 1 ≤ m) (a b : Nat) : ∃ U V : Nat, (U * a + V * b) % m = Nat.gcd a b % m := by
  obtain ⟨u, v, e⟩ := bez a b
  refine ⟨(u % m).toNat, (v % m).toNat, ?_⟩
  have h1 : (((u % m).toNat : Nat) : Int) = u % m := Int.toNat_of_nonneg (Int.emod_nonneg _ (by omega))
  have h2 : (((v % m).toNat : Nat) : Int) = v % m := Int.toNat_of_nonneg (Int.emod_nonneg _ (by omega))
  have key : ((((u % m).toNat * a + (v % m).toNat * b : Nat) : Int)) % m = ((Nat.gcd a b : Nat) : Int) % m := by
    rw [Int.natCast_add, Int.natCast_mul, Int.natCast_mul, h1, h2, ← e]
    rw [Int.add_emod, Int.mul_emod, Int.emod_emod_of_dvd _ (Int.dvd_refl _), ← Int.mul_emod, Int.mul_emod (v % m), Int.emod_emod_of_dvd _ (Int.dvd_refl _), ← Int.mul_emod, ← Int.add_emod]
  exact_mod_cast key
namespace Y
open Po PySem Lean.Grind
section
variable {p k g : Nat} {fl : List Int} {L : List Nat}
theorem perm_of : ∀ {l L : List Nat}, l.Nodup → l.length = L.length → (∀ x ∈ l, x ∈ L) → l.Perm L
  | [], L, _, hl, _ => by
    have : L = [] := List.eq_nil_of_length_eq_zero hl.symm
    rw [this]
  | x :: l, L, nd, hl, h => by
    have hx := h x List.mem_cons_self
    have p1 := List.perm_cons_erase hx
    obtain ⟨n1, n2⟩ := List.nodup_cons.mp nd
    refine (List.Perm.cons x (perm_of n2 ?_ fun y hy => ?_)).trans p1.symm
    · rw [List.length_erase_of_mem hx, ← hl, List.length_cons]
      rfl
    · have hne : y ≠ x := fun e => n1 (by rw [← e]; exact hy)
      exact (List.mem_erase_of_ne hne).mpr (h y (List.mem_cons_of_mem _ hy))
theorem Fw.perm (h : Fw p k fl g L) : (List.range (p ^ k)).Perm (0 :: L) := by
  have q2 := h.q2
  refine perm_of List.nodup_range (by rw [List.length_range, List.length_cons, h.gn.len]; omega) fun x hx => ?_
  by_cases e : x = 0
  · rw [e]; exact List.mem_cons_self
  · exact List.mem_cons_of_mem _ (h.gn.all x (by omega) (List.mem_range.mp hx))
theorem Fw.nodup (h : Fw p k fl g L) : L.Nodup := (List.nodup_cons.mp (h.perm.nodup_iff.mp List.nodup_range)).2
theorem Fw.inj (h : Fw p k fl g L) {u v : Nat} (hu : u < p ^ k - 1) (hv : v < p ^ k - 1) (e : pw p k fl g u = pw p k fl g v) : u = v := by
  have lu : u < L.length := by rw [h.gn.len]; exact hu
  have lv : v < L.length := by rw [h.gn.len]; exact hv
  have e1 := h.pows.1 u _ (List.getElem?_eq_getElem lu)
  have e2 := h.pows.1 v _ (List.getElem?_eq_getElem lv)
  have e3 : L[u] = L[v] := by omega
  have np := List.pairwise_iff_getElem.mp h.nodup
  rcases Nat.lt_trichotomy u v with z | z | z
  · exact absurd e3 (np u v lu lv z)
  · exact z
  · exact absurd e3.symm (np v u lv lu z)
theorem Fw.eq_iff (h : Fw p k fl g L) (u : Nat) {j : Nat} (hj : j < p ^ k - 1) : pw p k fl g u = pw p k fl g j ↔ u % (p ^ k - 1) = j := by
  rw [pw_mod h.w h.pows.2 u]
  exact ⟨fun e => h.inj (Nat.mod_lt _ (by omega)) hj e, fun e => by rw [e]⟩
end
namespace K05
section
variable {p k g : Nat} {fl : List Int} {L : List Nat}
/-- the maker -/
def gE (h : Fw p k fl g L) : Fe h.w := ⟨(g : Nat), h.g_el⟩
theorem gE_v (h : Fw p k fl g L) (n : Nat) : (gE h ^ n).v = pw p k fl g n := rfl
theorem pow_mul2 {w : Wd p k fl} (x : Fe w) (a b : Nat) : (x ^ a) ^ b = x ^ (a * b) := Fe.eq (pw_mul w x.v a b)
theorem pow_add2 {w : Wd p k fl} (x : Fe w) (a b : Nat) : x ^ a * x ^ b = x ^ (a + b) := Fe.eq (pw_add w x.v a b)
/-! ### powers of the maker -/
theorem gE_eq (h : Fw p k fl g L) (u : Nat) {j : Nat} (hj : j < p ^ k - 1) : gE h ^ u = gE h ^ j ↔ u % (p ^ k - 1) = j :=
  ⟨fun e => (Fw.eq_iff h u hj).mp (congrArg Fe.v e), fun e => Fe.eq ((Fw.eq_iff h u hj).mpr e)⟩
theorem gE_one (h : Fw p k fl g L) (u : Nat) : gE h ^ u = 1 ↔ (p ^ k - 1) ∣ u := by
  have q2 := h.q2
  have e0 : gE h ^ 0 = 1 := Fe.eq (by rw [Fe.one_v]; rfl)
  rw [← e0, gE_eq h u (by omega)]
  exact Nat.dvd_iff_mod_eq_zero.symm
theorem gE_mod (h : Fw p k fl g L) {u v : Nat} (e : u % (p ^ k - 1) = v % (p ^ k - 1)) : gE h ^ u = gE h ^ v := by
  have q2 := h.q2
  have hl : v % (p ^ k - 1) < p ^ k - 1 := Nat.mod_lt _ (by omega)
  rw [(gE_eq h u hl).mpr e, (gE_eq h v hl).mpr rfl]
theorem gE_of (h : Fw p k fl g L) {x : Fe h.w} (hx : x ≠ 0) : ∃ j, j < p ^ k - 1 ∧ x = gE h ^ j := by
  obtain ⟨j, hj, e⟩ := h.pow_of x.el (fun z => hx (Fe.eq (by rw [z, Fe.zero_v])))
  exact ⟨j, hj, Fe.eq e⟩
theorem gE_ne (h : Fw p k fl g L) (n : Nat) : gE h ^ n ≠ 0 := fun e => by
  have h2 := Ft.pow_ne' (fe_dom h) (fe_one_ne h.w) n e
  have h3 := congrArg Fe.v h2
  rw [Fe.zero_v] at h3
  have h4 : ((g : Nat) : Int) = 0 := h3
  have := h.gn.g1
  omega
/-! ### products -/
variable {w : Wd p k fl}
theorem pr_mul {els : List (Fe w)} {x y : Fe w} (hx : Pr els x) (hy : Pr els y) : Pr els (x * y) := by
  induction hy with
  | one =>
    have e : x * 1 = x := by grind
    rw [e]; exact hx
  | @mul y e _ he ih =>
    have e2 : x * (y * e) = x * y * e := by grind
    rw [e2]; exact .mul ih he
theorem pr_pow {els : List (Fe w)} {x : Fe w} (hx : Pr els x) : ∀ n : Nat, Pr els (x ^ n)
  | 0 => by rw [Semiring.pow_zero]; exact .one
  | n + 1 => by rw [Semiring.pow_succ]; exact pr_mul (pr_pow hx n) hx
theorem pr_sub {els es : List (Fe w)} (hs : ∀ e ∈ els, e ∈ es) {x : Fe w} (hx : Pr els x) : Pr es x := by
  induction hx with
  | one => exact .one
  | mul _ he ih => exact .mul ih (hs _ he)
theorem pr_el {els : List (Fe w)} {e : Fe w} (he : e ∈ els) : Pr els e := by
  have := Pr.mul (els := els) .one he
  have e2 : (1 : Fe w) * e = e := by grind
  rwa [e2] at this
/-- products of not-zeros: a common exponent -/
theorem pr_exp (h : Fw p k fl g L) {els : List (Fe h.w)} {c : Nat} (hc : ∀ e ∈ els, e ≠ 0 → e ^ c = 1) {x : Fe h.w} (hx : Pr els x) : x ≠ 0 → x ^ c = 1 := by
  induction hx with
  | one => exact fun _ => Ft.pow_one' c
  | @mul x e _ he ih =>
    intro hn
    have h1 : x ≠ 0 := fun z => hn (by rw [z]; grind)
    have h2 : e ≠ 0 := fun z => hn (by rw [z]; grind)
    rw [Ft.pow_mul', ih h1, hc e he h2]
    grind
theorem pr_zero (h : Fw p k fl g L) {els : List (Fe h.w)} : Pr els 0 ↔ (0 : Fe h.w) ∈ els := by
  constructor
  · intro hx
    have key : ∀ x : Fe h.w, Pr els x → x = 0 → (0 : Fe h.w) ∈ els := fun x hx => by
      induction hx with
      | one => exact fun e => absurd e (fe_one_ne h.w)
      | @mul x e _ he ih =>
        intro z
        rcases fe_dom h _ _ z with q | q
        · exact ih q
        · rw [← q]; exact he
    exact key 0 hx rfl
  · exact pr_el
/-- a power of the maker that all products share -/
theorem pr_gen (h : Fw p k fl g L) : ∀ els : List (Fe h.w), ∃ d, d ∣ (p ^ k - 1) ∧ Pr els (gE h ^ d) ∧ ∀ e ∈ els, e ≠ 0 → ∃ j, e = gE h ^ (d * j)
  | [] => ⟨p ^ k - 1, Nat.dvd_refl _, by rw [(gE_one h _).mpr (Nat.dvd_refl _)]; exact .one, fun e he => absurd he List.not_mem_nil⟩
  | e :: els => by
    have q2 := h.q2
    obtain ⟨d, h1, h2, h3⟩ := pr_gen h els
    have sub : ∀ x ∈ els, x ∈ e :: els := fun x hx => List.mem_cons_of_mem _ hx
    by_cases hz : e = 0
    · exact ⟨d, h1, pr_sub sub h2, fun x hx hn => by
        rcases List.mem_cons.mp hx with q | q
        · exact absurd (q.trans hz) hn
        · exact h3 x q hn⟩
    · obtain ⟨j, hj, ej⟩ := gE_of h hz
      obtain ⟨U, V, hUV⟩ := bez_mod (m := p ^ k - 1) (by omega) d j
      refine ⟨Nat.gcd d j, Nat.dvd_trans (Nat.gcd_dvd_left d j) h1, ?_, fun x hx hn => ?_⟩
      · have e1 : gE h ^ (Nat.gcd d j) = (gE h ^ d) ^ U * (gE h ^ j) ^ V := by
          rw [pow_mul2, pow_mul2, pow_add2]
          refine gE_mod h ?_
          rw [Nat.mul_comm d U, Nat.mul_comm j V]
          exact hUV.symm
        rw [e1]
        exact pr_mul (pr_pow (pr_sub sub h2) U) (pr_pow (by rw [← ej]; exact pr_el List.mem_cons_self) V)
      · rcases List.mem_cons.mp hx with q | q
        · obtain ⟨t, ht⟩ := Nat.gcd_dvd_right d j
          exact ⟨t, by rw [← ht, q]; exact ej⟩
        · obtain ⟨i, hi⟩ := h3 x q hn
          obtain ⟨t, ht⟩ := Nat.gcd_dvd_left d j
          exact ⟨t * i, by rw [hi, ← Nat.mul_assoc, ← ht]⟩
/-- c is the common exponent, the least by division -/
structure Com (h : Fw p k fl g L) (els : List (Fe h.w)) (c : Nat) : Prop where
  c1 : 1 ≤ c
  all : ∀ e ∈ els, e ≠ 0 → e ^ c = 1
  dvd : ∀ n, (∀ e ∈ els, e ≠ 0 → e ^ n = 1) → c ∣ n
theorem fe_m (h : Fw p k fl g L) {x : Fe h.w} (hx : x ≠ 0) : x ^ (p ^ k - 1) = 1 := by
  obtain ⟨j, _, rfl⟩ := gE_of h hx
  rw [pow_mul2, gE_one]
  exact Nat.dvd_mul_left _ _
theorem Com.m (h : Fw p k fl g L) {els : List (Fe h.w)} {c : Nat} (s : Com h els c) : c ∣ (p ^ k - 1) := s.dvd _ fun e _ hn => fe_m h hn
theorem Com.iff (h : Fw p k fl g L) {els : List (Fe h.w)} {c : Nat} (s : Com h els c) {x : Fe h.w} (hx : x ≠ 0) : Pr els x ↔ x ^ c = 1 := by
  have q2 := h.q2
  refine ⟨fun q => pr_exp h s.all q hx, fun q => ?_⟩
  obtain ⟨d, ⟨t, ht⟩, h2, h3⟩ := pr_gen h els
  have hc : c ∣ t := s.dvd t fun e he hn => by
    obtain ⟨j, rfl⟩ := h3 e he hn
    rw [pow_mul2, gE_one, ht]
    exact ⟨j, by rw [Nat.mul_assoc, Nat.mul_assoc, Nat.mul_comm j t]⟩
  obtain ⟨r, hr⟩ := hc
  obtain ⟨j, _, rfl⟩ := gE_of h hx
  rw [pow_mul2, gE_one, ht, hr] at q
  obtain ⟨i, hi⟩ := q
  have c1 := s.c1
  -- d * (c * r) * i = j * c
  have e1 : j = d * (r * i) := by
    have : c * j = c * (d * (r * i)) := by
      rw [Nat.mul_comm c j, hi]
      simp only [Nat.mul_assoc, Nat.mul_comm, Nat.mul_left_comm]
    exact Nat.eq_of_mul_eq_mul_left (by omega) this
  rw [e1, ← pow_mul2]
  exact pr_pow h2 _
/-- how many there are -/
theorem roots_count (h : Fw p k fl g L) {c : Nat} (hc : c ∣ (p ^ k - 1)) (l : List (Fe h.w)) (nd : l.Nodup) (hl : ∀ x, x ∈ l ↔ x ≠ 0 ∧ x ^ c = 1) : l.length = c := by
  have q2 := h.q2
  obtain ⟨t, ht⟩ := hc
  have t1 : 1 ≤ t := by
    rcases Nat.eq_zero_or_pos t with z | z
    · rw [z] at ht; omega
    · exact z
  have c1 : 1 ≤ c := by
    rcases Nat.eq_zero_or_pos c with z | z
    · rw [z] at ht; omega
    · exact z
  have nd2 : ((List.range c).map fun i => gE h ^ (t * i)).Nodup := by
    rw [List.Nodup, List.pairwise_map]
    refine List.Pairwise.imp_of_mem ?_ (List.pairwise_lt_range (n := c))
    intro a b ha hb hab e
    have ha := List.mem_range.mp ha
    have hb := List.mem_range.mp hb
    have la : t * a < p ^ k - 1 := by rw [ht, Nat.mul_comm c t]; exact Nat.mul_lt_mul_of_pos_left ha t1
    have lb : t * b < p ^ k - 1 := by rw [ht, Nat.mul_comm c t]; exact Nat.mul_lt_mul_of_pos_left hb t1
    have := (gE_eq h (t * a) lb).mp e
    rw [Nat.mod_eq_of_lt la] at this
    have := Nat.eq_of_mul_eq_mul_left t1 this
    omega
  have h1 := len_sub nd2 (L := l) fun x hx => by
    obtain ⟨i, _, rfl⟩ := List.mem_map.mp hx
    refine (hl _).mpr ⟨gE_ne h _, ?_⟩
    rw [pow_mul2, gE_one, ht]
    exact ⟨i, by rw [Nat.mul_comm c t, Nat.mul_assoc, Nat.mul_assoc, Nat.mul_comm i c]⟩
  have h2 := len_sub nd (L := (List.range c).map fun i => gE h ^ (t * i)) fun x hx => by
    obtain ⟨hn, hp⟩ := (hl x).mp hx
    obtain ⟨j, hj, rfl⟩ := gE_of h hn
    rw [pow_mul2, gE_one, ht] at hp
    obtain ⟨i, hi⟩ := hp
    have e1 : j = t * i := by
      have : c * j = c * (t * i) := by rw [Nat.mul_comm c j, hi, Nat.mul_assoc]
      exact Nat.eq_of_mul_eq_mul_left (by omega) this
    have li : i < c := by
      rw [e1, ht, Nat.mul_comm c t] at hj
      exact Nat.lt_of_mul_lt_mul_left hj
    exact List.mem_map.mpr ⟨i, List.mem_range.mpr li, by rw [e1]⟩
  rw [List.length_map, List.length_range] at h1 h2
  omega
end
end K05
end Y
/-! # T3 -/
set_option Elab.async false
set_option linter.all false
set_option maxRecDepth 100000
set_option maxHeartbeats 4000000
namespace Ft
open Lean.Grind
variable {α : Type} [CommRing α]
theorem hm_it {φ : α → α} (h : Hm φ) : ∀ n, Hm (it φ n)
  | 0 => ⟨fun _ _ => rfl, fun _ _ => rfl, rfl⟩
  | n + 1 => by
    have ih := hm_it h n
    exact ⟨fun a b => by show φ (it φ n (a + b)) = _; rw [ih.add, h.add]; rfl, fun a b => by show φ (it φ n (a * b)) = _; rw [ih.mul, h.mul]; rfl, by show φ (it φ n 1) = _; rw [ih.one, h.one]⟩
theorem it_mul {φ : α → α} {e : Nat} {x : α} (h : it φ e x = x) : ∀ j, it φ (e * j) x = x
  | 0 => rfl
  | j + 1 => by
    have := it_add φ (e * j) x e
    rw [it_mul h j, h] at this
    rw [Nat.mul_succ, Nat.add_comm]
    exact this.symm
theorem it_modn {φ : α → α} {e : Nat} {x : α} (h : it φ e x = x) (n : Nat) : it φ n x = it φ (n % e) x := by
  have := it_add φ (e * (n / e)) x (n % e)
  rw [it_mul h] at this
  rw [this, Nat.add_comm, Nat.div_add_mod]
theorem pe_sub : ∀ {l m : List α} {x : α}, l.length = m.length → pe (List.zipWith (· - ·) l m) x = pe l x - pe m x
  | [], [], x, _ => by simp only [List.zipWith_nil_left, pe]; grind
  | a :: l, b :: m, x, h => by
    have ih := pe_sub (l := l) (m := m) (x := x) (by simpa using h)
    simp only [List.zipWith_cons_cons, pe, ih]
    grind
end Ft
namespace Y
open Po PySem Lean.Grind
theorem dig_inj {p : Int} (hp : 0 < p) {e : Nat} {a b : Int} (a0 : 0 ≤ a) (a1 : a < p ^ e) (b0 : 0 ≤ b) (b1 : b < p ^ e) (h : dig p e a = dig p e b) : a = b := by
  rw [← dig_ev hp e a a0 a1, ← dig_ev hp e b b0 b1, h]
namespace K05
section
variable {p k g : Nat} {fl : List Int} {L : List Nat}
/-- x stays, e times led -/
structure Dg (h : Fw p k fl g L) (x : Fe h.w) (e : Nat) : Prop where
  e1 : 1 ≤ e
  st : Ft.it (ph h.w) e x = x
  lt : ∀ m, 1 ≤ m → m < e → Ft.it (ph h.w) m x ≠ x
theorem Dg.iff {h : Fw p k fl g L} {x : Fe h.w} {e : Nat} (d : Dg h x e) (n : Nat) : Ft.it (ph h.w) n x = x ↔ e ∣ n := by
  constructor
  · intro hn
    rw [Ft.it_modn d.st] at hn
    have hl := Nat.mod_lt n d.e1
    rcases Nat.eq_zero_or_pos (n % e) with z | z
    · exact Nat.dvd_of_mod_eq_zero z
    · exact absurd hn (d.lt _ z hl)
  · rintro ⟨j, rfl⟩
    exact Ft.it_mul d.st j
theorem dg_ex (h : Fw p k fl g L) (x : Fe h.w) : ∃ e, Dg h x e ∧ e ∣ k := by
  have k1 := h.w.k1
  have key : ∀ n : Nat, ∀ m, n = m → 1 ≤ m → Ft.it (ph h.w) m x = x → ∃ e, Dg h x e := fun n => by
    induction n using Nat.strongRecOn with
    | _ n ih =>
      rintro m rfl m1 hm
      by_cases c : ∃ j, 1 ≤ j ∧ j < n ∧ Ft.it (ph h.w) j x = x
      · obtain ⟨j, j1, j2, j3⟩ := c
        exact ih j j2 j rfl j1 j3
      · exact ⟨n, m1, hm, fun j j1 j2 j3 => c ⟨j, j1, j2, j3⟩⟩
  obtain ⟨e, d⟩ := key k k rfl k1 (ph_k h x)
  exact ⟨e, d, (d.iff k).mp (ph_k h x)⟩
theorem dg_one (h : Fw p k fl g L) (s : Sz p k) : Dg h (1 : Fe h.w) 1 := ⟨Nat.le_refl 1, (ph_hm h s).one, fun m a b => by omega⟩
/-- closed under what keeps sums and products -/
theorem gr_stay (h : Fw p k fl g L) (s : Sz p k) {els : List (Fe h.w)} {d : Nat} (hd : ∀ x ∈ els, Ft.it (ph h.w) d x = x) {x : Fe h.w} (hx : Gr els x) : Ft.it (ph h.w) d x = x := by
  have hm := Ft.hm_it (ph_hm h s) d
  induction hx with
  | base hb => exact hd _ hb
  | add _ _ i1 i2 => rw [hm.add, i1, i2]
  | mul _ _ i1 i2 => rw [hm.mul, i1, i2]
theorem gr_nat (h : Fw p k fl g L) {els : List (Fe h.w)} (h0 : (0 : Fe h.w) ∈ els) (h1 : (1 : Fe h.w) ∈ els) : ∀ n : Nat, Gr els (fz h.w (n : Int))
  | 0 => .base h0
  | n + 1 => by
    have e : fz h.w ((n + 1 : Nat) : Int) = fz h.w (n : Int) + 1 := by
      rw [Int.natCast_succ, fz_add]
      rfl
    rw [e]
    exact .add (gr_nat h h0 h1 n) (.base h1)
theorem gr_pz (h : Fw p k fl g L) {els : List (Fe h.w)} (h0 : (0 : Fe h.w) ∈ els) (h1 : (1 : Fe h.w) ∈ els) {x : Fe h.w} (hx : Gr els x) : ∀ l : List Int, (∀ c ∈ l, 0 ≤ c) → Gr els (pz h.w l x)
  | [], _ => .base h0
  | c :: l, hc => by
    rw [pz_cons]
    refine .add (.mul (gr_pz h h0 h1 hx l fun d hd => hc d (List.mem_cons_of_mem _ hd)) hx) ?_
    have := hc c List.mem_cons_self
    obtain ⟨n, rfl⟩ : ∃ n : Nat, c = n := ⟨c.toNat, by omega⟩
    exact gr_nat h h0 h1 n
theorem it_fz (h : Fw p k fl g L) (s : Sz p k) (n : Nat) : ∀ d, Ft.it (ph h.w) d (fz h.w (n : Int)) = fz h.w (n : Int)
  | 0 => rfl
  | d + 1 => by
    show ph h.w (Ft.it (ph h.w) d _) = _
    rw [it_fz h s n d]
    exact ph_nat h s n
theorem pz_stay (h : Fw p k fl g L) (s : Sz p k) {x : Fe h.w} {d : Nat} (hx : Ft.it (ph h.w) d x = x) {l : List Int} (hl : ∀ c ∈ l, 0 ≤ c) : Ft.it (ph h.w) d (pz h.w l x) = pz h.w l x := by
  have hm := Ft.hm_it (ph_hm h s) d
  have := Ft.pe_map hm x (l.map (fz h.w))
  rw [hx, List.map_map] at this
  have e : l.map (Ft.it (ph h.w) d ∘ fz h.w) = l.map (fz h.w) := List.map_congr_left fun c hc => by
    have := hl c hc
    obtain ⟨n, rfl⟩ : ∃ n : Nat, c = n := ⟨c.toNat, by omega⟩
    exact it_fz h s n d
  rw [e] at this
  exact this.symm
/-- rows shorter than the degree have other values -/
theorem pz_inj (h : Fw p k fl g L) (s : Sz p k) {x : Fe h.w} {e : Nat} (d : Dg h x e) {a b : List Int} (ra : Rd p a) (rb : Rd p b) (la : a.length = e) (lb : b.length = e) (q : pz h.w a x = pz h.w b x) : a = b := by
  have z : Ft.pe (List.zipWith (· - ·) (a.map (fz h.w)) (b.map (fz h.w))) x = 0 := by
    rw [Ft.pe_sub (by rw [List.length_map, List.length_map, la, lb])]
    show pz h.w a x - pz h.w b x = 0
    rw [q]
    exact Ft.sub_self' _
  have all := Ft.conj_all (fe_dom h) (ph_hm h s) (ph_inj h s) d.lt (l := List.zipWith (· - ·) (a.map (fz h.w)) (b.map (fz h.w))) (by
    apply List.ext_getElem
    · rw [List.length_map]
    · intro i h1 h2
      rw [List.getElem_map, List.getElem_zipWith, List.getElem_map, List.getElem_map, (ph_hm h s).sub]
      have ia : i < a.length := by simp at h2; omega
      have ib : i < b.length := by simp at h2; omega
      have h3 := ra _ (List.getElem_mem ia)
      have h4 := rb _ (List.getElem_mem ib)
      obtain ⟨m, hm⟩ : ∃ m : Nat, a[i] = m := ⟨a[i].toNat, by omega⟩
      obtain ⟨n, hn⟩ : ∃ n : Nat, b[i] = n := ⟨b[i].toNat, by omega⟩
      rw [hm, hn, ph_nat h s, ph_nat h s]) z (by rw [List.length_zipWith, List.length_map, List.length_map, la, lb, Nat.min_self]; exact Nat.le_refl e)
  apply List.ext_getElem (by rw [la, lb])
  intro i h1 h2
  have h3 := ra _ (List.getElem_mem h1)
  have h4 := rb _ (List.getElem_mem h2)
  have h5 := all (fz h.w a[i] - fz h.w b[i]) (List.mem_iff_getElem.mpr ⟨i, by rw [List.length_zipWith, List.length_map, List.length_map]; omega, by rw [List.getElem_zipWith, List.getElem_map, List.getElem_map]⟩)
  have h6 : fz h.w a[i] = fz h.w b[i] := by grind
  have h7 := congrArg Fe.v h6
  rw [fz_self h.w h3.1 h3.2, fz_self h.w h4.1 h4.2] at h7
  exact h7
/-! ### the elements by their numbers; lots -/
def en (h : Fw p k fl g L) (z : Nat) : Fe h.w := ⟨((z % p ^ k : Nat) : Int), by
  have h2 := h.q2
  have := Nat.mod_lt z (show 0 < p ^ k by omega)
  refine ⟨Int.natCast_nonneg _, ?_⟩
  rw [← h.qk]
  exact Int.ofNat_lt.mpr this⟩
theorem en_v (h : Fw p k fl g L) {z : Nat} (hz : z < p ^ k) : (en h z).v = (z : Int) := by
  show ((z % p ^ k : Nat) : Int) = z
  rw [Nat.mod_eq_of_lt hz]
theorem en_of (h : Fw p k fl g L) (x : Fe h.w) : ∃ z, z < p ^ k ∧ en h z = x := by
  have h1 := x.el.1
  have h2 := x.el.2
  rw [← h.qk] at h2
  exact ⟨x.v.toNat, by omega, Fe.eq (by rw [en_v h (by omega)]; exact Int.toNat_of_nonneg h1)⟩
/-- all elements that P takes, in ascending order -/
def sel (h : Fw p k fl g L) (P : Fe h.w → Bool) : List Nat := (List.range (p ^ k)).filter fun z => P (en h z)
def selF (h : Fw p k fl g L) (P : Fe h.w → Bool) : List (Fe h.w) := (sel h P).map (en h)
theorem sel_lt (h : Fw p k fl g L) {P : Fe h.w → Bool} {z : Nat} (hz : z ∈ sel h P) : z < p ^ k ∧ P (en h z) = true := by
  obtain ⟨a, b⟩ := List.mem_filter.mp hz
  exact ⟨List.mem_range.mp a, b⟩
theorem mem_sel (h : Fw p k fl g L) (P : Fe h.w → Bool) (x : Fe h.w) : x ∈ selF h P ↔ P x = true := by
  constructor
  · intro hx
    obtain ⟨z, hz, rfl⟩ := List.mem_map.mp hx
    exact (sel_lt h hz).2
  · intro hx
    obtain ⟨z, hz, rfl⟩ := en_of h x
    exact List.mem_map.mpr ⟨z, List.mem_filter.mpr ⟨List.mem_range.mpr hz, hx⟩, rfl⟩
def selI (h : Fw p k fl g L) (P : Fe h.w → Bool) : List Int := (sel h P).map fun (z : Nat) => (0 : Int) + (z : Int)
theorem selI_fi (h : Fw p k fl g L) (P : Fe h.w → Bool) : selI h P = fi (selF h P) := by
  unfold selI selF fi
  rw [List.map_map]
  refine List.map_congr_left fun z hz => ?_
  show (0 : Int) + (z : Int) = (en h z).v
  rw [en_v h (sel_lt h hz).1]
  omega
theorem selI_lt (h : Fw p k fl g L) (P : Fe h.w → Bool) : (selI h P).Pairwise (· < ·) := by
  unfold selI
  rw [List.pairwise_map]
  have : (sel h P).Pairwise (· < ·) := List.Pairwise.filter _ List.pairwise_lt_range
  exact this.imp fun h => by omega
theorem selF_nd (h : Fw p k fl g L) (P : Fe h.w → Bool) : (selF h P).Nodup := by
  have := selI_lt h P
  rw [selI_fi] at this
  unfold fi at this
  rw [List.pairwise_map] at this
  exact this.imp fun h e => by rw [e] at h; exact Int.lt_irrefl _ h
theorem selI_len (h : Fw p k fl g L) (P : Fe h.w → Bool) : (selI h P).length = (selF h P).length := by rw [selI_fi, fi_len]
/-- sorted, as all that P takes -/
theorem fs_sel (h : Fw p k fl g L) (P : Fe h.w → Bool) {l : List (Fe h.w)} (nd : l.Nodup) (hl : ∀ x, x ∈ l ↔ P x = true) : fs l = selI h P :=
  fs_eq nd (fun c => by
    rw [selI_fi]
    constructor
    · intro hc
      obtain ⟨x, hx, rfl⟩ := List.mem_map.mp hc
      exact mem_fi.mpr ((hl x).mpr ((mem_sel h P x).mp hx))
    · intro hc
      obtain ⟨x, hx, rfl⟩ := List.mem_map.mp hc
      exact mem_fi.mpr ((mem_sel h P x).mpr ((hl x).mp hx))) (selI_lt h P)
/-- stays to the power p ^ d -/
def stB (h : Fw p k fl g L) (d : Nat) (x : Fe h.w) : Bool := decide ((x ^ (p ^ d)).v = x.v)
theorem stB_iff (h : Fw p k fl g L) (d : Nat) (x : Fe h.w) : stB h d x = true ↔ Ft.it (ph h.w) d x = x := by
  unfold stB
  rw [decide_eq_true_iff, ph_it]
  exact ⟨fun e => Fe.eq e, fun e => by rw [e]⟩
def lotF (h : Fw p k fl g L) (d : Nat) : List (Fe h.w) := selF h (stB h d)
def lotI (h : Fw p k fl g L) (d : Nat) : List Int := selI h (stB h d)
theorem mem_lot (h : Fw p k fl g L) (d : Nat) (x : Fe h.w) : x ∈ lotF h d ↔ Ft.it (ph h.w) d x = x := by
  unfold lotF
  rw [mem_sel, stB_iff]
theorem size_dvd : ∀ s ∈ sizesA ++ sizesB, ∀ d ∈ List.range 6, 1 ≤ d → s.2 % d = 0 → (s.1 ^ s.2 - 1) % (s.1 ^ d - 1) = 0 ∧ 2 ≤ s.1 ^ d := by decide +kernel
theorem chain : ∀ k ∈ List.range 6, ∀ a ∈ List.range 6, ∀ b ∈ List.range 6, 1 ≤ k → k % a = 0 → k % b = 0 → 1 ≤ a → 1 ≤ b → a % b = 0 ∨ b % a = 0 := by decide +kernel
theorem dvd_le6 (s : Sz p k) {d : Nat} (hd : d ∣ k) : 1 ≤ d ∧ d ≤ 5 := by
  have h1 := s.ok.2.2.2.2.1
  have h2 := s.ok.2.2.2.2.2.1
  have h3 := Nat.le_of_dvd (by omega) hd
  have h4 := Nat.pos_of_dvd_of_pos hd (by omega)
  omega
theorem lot_len (h : Fw p k fl g L) (s : Sz p k) {d : Nat} (hd : d ∣ k) : (lotF h d).length = p ^ d := by
  obtain ⟨d1, d5⟩ := dvd_le6 s hd
  obtain ⟨h1, h2⟩ := size_dvd (p, k) s.mem d (List.mem_range.mpr (by omega)) d1 (Nat.mod_eq_zero_of_dvd hd)
  have h1 : (p ^ k - 1) % (p ^ d - 1) = 0 := h1
  have h2 : 2 ≤ p ^ d := h2
  have nd := selF_nd h (stB h d)
  have e : p ^ d = (p ^ d - 1) + 1 := by omega
  have zero_in : Ft.it (ph h.w) d (0 : Fe h.w) = 0 := (Ft.hm_it (ph_hm h s) d).zero
  have P0 := roots_count h (c := p ^ d - 1) (Nat.dvd_of_mod_eq_zero h1) (selF h fun x => decide (x.v ≠ 0) && decide ((x ^ (p ^ d - 1)).v = 1)) (selF_nd h _) fun x => by
    rw [mem_sel, Bool.and_eq_true, decide_eq_true_iff, decide_eq_true_iff]
    exact ⟨fun ⟨a, b⟩ => ⟨fun z => a (by rw [z, Fe.zero_v]), Fe.eq (by rw [b, Fe.one_v])⟩, fun ⟨a, b⟩ => ⟨fun z => a (Fe.eq (by rw [z, Fe.zero_v])), by rw [b, Fe.one_v]⟩⟩
  generalize hN : (selF h fun x => decide (x.v ≠ 0) && decide ((x ^ (p ^ d - 1)).v = 1)) = N at P0
  have mN : ∀ x, x ∈ N ↔ x ≠ 0 ∧ x ^ (p ^ d - 1) = 1 := fun x => by
    rw [← hN, mem_sel, Bool.and_eq_true, decide_eq_true_iff, decide_eq_true_iff]
    exact ⟨fun ⟨a, b⟩ => ⟨fun z => a (by rw [z, Fe.zero_v]), Fe.eq (by rw [b, Fe.one_v])⟩, fun ⟨a, b⟩ => ⟨fun z => a (Fe.eq (by rw [z, Fe.zero_v])), by rw [b, Fe.one_v]⟩⟩
  have nN : N.Nodup := by rw [← hN]; exact selF_nd h _
  have nd0 : ((0 : Fe h.w) :: N).Nodup := List.nodup_cons.mpr ⟨fun z => ((mN 0).mp z).1 rfl, nN⟩
  have mem : ∀ x : Fe h.w, x ∈ lotF h d ↔ x ∈ (0 : Fe h.w) :: N := fun x => by
    rw [mem_lot, List.mem_cons, mN, ph_it]
    by_cases hx : x = 0
    · rw [hx]
      refine ⟨fun _ => .inl rfl, fun _ => ?_⟩
      rw [← ph_it]
      exact zero_in
    · have ep : x ^ (p ^ d) = x ^ (p ^ d - 1) * x := by
        conv => lhs; rw [e]
        exact Semiring.pow_succ x (p ^ d - 1)
      rw [ep]
      constructor
      · intro q
        refine .inr ⟨hx, ?_⟩
        have q2 : (x ^ (p ^ d - 1) - 1) * x = 0 := by grind
        rcases fe_dom h _ _ q2 with z | z
        · grind
        · exact absurd z hx
      · rintro (q | ⟨_, q⟩)
        · exact absurd q hx
        · rw [q]; grind
  have a := len_sub nd fun x hx => (mem x).mp hx
  have b := len_sub nd0 fun x hx => (mem x).mpr hx
  rw [List.length_cons] at a b
  have e3 : (selF h (stB h d)).length = (lotF h d).length := rfl
  omega
/-- the products' rows reach all of the lot -/
theorem lot_gr (h : Fw p k fl g L) (s : Sz p k) {els : List (Fe h.w)} (h0 : (0 : Fe h.w) ∈ els) (h1 : (1 : Fe h.w) ∈ els) {x : Fe h.w} {e : Nat} (hx : Gr els x) (d : Dg h x e) (he : e ∣ k) {z : Fe h.w} (hz : Ft.it (ph h.w) e z = z) : Gr els z := by
  have p2 := s.ok.2.2.1
  have pp : 0 < (p : Int) := by omega
  have qe : ((p ^ e : Nat) : Int) = (p : Int) ^ e := Int.natCast_pow p e
  have rd := fun n : Nat => dig_rd pp e (n : Int)
  have nn : ∀ (n : Nat), ∀ c ∈ dig (p : Int) e (n : Int), 0 ≤ c := fun n c hc => (rd n c hc).1
  have nd : ((List.range (p ^ e)).map fun n : Nat => pz h.w (dig p e (n : Int)) x).Nodup := by
    rw [List.Nodup, List.pairwise_map]
    refine List.Pairwise.imp_of_mem ?_ (List.pairwise_lt_range (n := p ^ e))
    intro a b ha hb hab q
    have ha := List.mem_range.mp ha
    have hb := List.mem_range.mp hb
    have := pz_inj h s d (rd a) (rd b) (dig_len _ _ _) (dig_len _ _ _) q
    have := dig_inj pp (by omega) (by rw [← qe]; omega) (by omega) (by rw [← qe]; omega) this
    omega
  have all := sub_back nd (L := lotF h e) (fun y hy => by
    obtain ⟨n, _, rfl⟩ := List.mem_map.mp hy
    exact (mem_lot h e _).mpr (pz_stay h s d.st (nn n))) (selF_nd h _) (by rw [lot_len h s he, List.length_map, List.length_range]; exact Nat.le_refl _)
  obtain ⟨n, _, rfl⟩ := List.mem_map.mp (all z ((mem_lot h e z).mpr hz))
  exact gr_pz h h0 h1 hx _ (nn n)
/-- the greatest degree among some elements -/
theorem top_deg (h : Fw p k fl g L) (s : Sz p k) : ∀ els : List (Fe h.w), ∃ e, e ∣ k ∧ (∀ y ∈ els, Ft.it (ph h.w) e y = y) ∧ ∃ x, (x = 1 ∨ x ∈ els) ∧ Dg h x e
  | [] => ⟨1, ⟨k, by omega⟩, fun y hy => absurd hy List.not_mem_nil, 1, .inl rfl, dg_one h s⟩
  | y :: els => by
    obtain ⟨e, he, h2, x, hx, d⟩ := top_deg h s els
    obtain ⟨f, df, hf⟩ := dg_ex h y
    obtain ⟨e1, e5⟩ := dvd_le6 s he
    obtain ⟨f1, f5⟩ := dvd_le6 s hf
    have k1 := s.ok.2.2.2.2.1
    have k5 := s.ok.2.2.2.2.2.1
    rcases chain k (List.mem_range.mpr (by omega)) e (List.mem_range.mpr (by omega)) f (List.mem_range.mpr (by omega)) k1 (Nat.mod_eq_zero_of_dvd he) (Nat.mod_eq_zero_of_dvd hf) e1 f1 with q | q
    · refine ⟨e, he, fun z hz => ?_, x, hx.imp id (List.mem_cons_of_mem _), d⟩
      rcases List.mem_cons.mp hz with r | r
      · rw [r]; exact (df.iff e).mpr (Nat.dvd_of_mod_eq_zero q)
      · exact h2 z r
    · refine ⟨f, hf, fun z hz => ?_, y, .inr List.mem_cons_self, df⟩
      rcases List.mem_cons.mp hz with r | r
      · rw [r]; exact df.st
      · have := h2 z r
        obtain ⟨j, hj⟩ := Nat.dvd_of_mod_eq_zero q
        rw [hj]
        exact Ft.it_mul this j
/-- what is grown from some elements, 0 and 1 among them, is a lot -/
theorem grown_lot (h : Fw p k fl g L) (s : Sz p k) {els : List (Fe h.w)} (h0 : (0 : Fe h.w) ∈ els) (h1 : (1 : Fe h.w) ∈ els) : ∃ e, e ∣ k ∧ (∀ x, Gr els x ↔ Ft.it (ph h.w) e x = x) ∧ ∀ d, d ∣ k → (∀ y ∈ els, Ft.it (ph h.w) d y = y) → e ≤ d := by
  obtain ⟨e, he, h2, x, hx, d⟩ := top_deg h s els
  have gx : Gr els x := by
    rcases hx with q | q
    · rw [q]; exact .base h1
    · exact .base q
  have iff : ∀ z, Gr els z ↔ Ft.it (ph h.w) e z = z := fun z => ⟨fun q => gr_stay h s h2 q, fun q => lot_gr h s h0 h1 gx d he q⟩
  refine ⟨e, he, iff, fun f hf hy => ?_⟩
  have := (d.iff f).mp (gr_stay h s hy gx)
  exact Nat.le_of_dvd (dvd_le6 s hf).1 this
end
end K05
end Y
/-! # T4 -/
set_option Elab.async false
set_option linter.all false
set_option maxRecDepth 100000
set_option maxHeartbeats 4000000
namespace Y
open Po PySem
/-! ### runs: dicts, membership, sorting -/
section
variable {ρ : Rho} {P : Out → Prop} {i : Nat} {kvs : List (L2.Key × D)}
theorem Go.ownD {m : Rho → R (List (L2.Key × D))} (h : m ρ = .ok kvs) (k : P (.next (ρ.set i (.dc kvs)))) : Go (mOwnD i m) ρ P := ⟨_, by unfold mOwnD; rw [h]; rfl, k⟩
theorem Go.dput {mv mk : Rho → R D} {v d : D} {k : L2.Key} (e : ρ[i]? = some (.dc kvs)) (h : mv ρ = .ok v) (h2 : mk ρ = .ok d) (hk : keyD d = some k) (nd : noDc (ρ.set i .no) = true) (hl : kvs.length < 16777216) (kk : P (.next (ρ.set i (.dc (putD kvs k v))))) : Go (mDPut i mv mk) ρ P := ⟨_, by
  unfold mDPut withDc
  rw [e]
  show lift ρ (mv ρ) _ = _
  rw [h, lift_ok, h2, lift_ok]
  unfold atK
  rw [hk]
  exact grd_ok ⟨nd, hl⟩, kk⟩
theorem vDIn {neg : Bool} {mk : Rho → R D} {d : D} {k : L2.Key} (e : ρ[i]? = some (.dc kvs)) (h : mk ρ = .ok d) (hk : keyD d = some k) : mDIn neg i mk ρ = .ok (.bl (xor neg (getK kvs k).isSome)) := by
  unfold mDIn
  rw [h, R.bind_ok, hk, e]
end
theorem inV_int (c : Int) (l : List Int) : L2.inV (D.int c).v ((l.map D.int).map D.v) = decide (c ∈ l) := by
  unfold L2.inV
  rw [List.map_map, List.any_map]
  by_cases h : c ∈ l
  · rw [decide_eq_true h, List.any_eq_true]
    refine ⟨c, h, ?_⟩
    show L2.eqV (.int c) (.int c) = true
    simp [L2.eqV]
  · rw [decide_eq_false h, List.any_eq_false]
    intro x hx
    show ¬ L2.eqV (.int x) (.int c) = true
    have : x ≠ c := fun e => h (by rw [← e]; exact hx)
    simp [L2.eqV, this]
theorem flat_ints (l : List Int) : (l.map D.int).all D.flat = true := by
  rw [List.all_eq_true]
  intro d hd
  obtain ⟨c, _, rfl⟩ := List.mem_map.mp hd
  rfl
theorem in_row {A : D} {l : List Int} (c : Int) (neg : Bool) (h : Row A l) : dInG neg (.int c) A = .ok (.bl (if neg then !decide (c ∈ l) else decide (c ∈ l))) := by
  have e := inV_int c l
  have g : ((D.int c).flat && (l.map D.int).all D.flat) = true := by rw [flat_ints]; rfl
  rcases h with rfl | rfl
  · show R.grd (((D.int c).flat && (l.map D.int).all D.flat) = true) (R.ok (D.bl (if neg then !L2.inV (D.int c).v ((l.map D.int).map D.v) else L2.inV (D.int c).v ((l.map D.int).map D.v)))) = _
    rw [e]
    exact grd_ok g
  · show R.grd (((D.int c).flat && (l.map D.int).all D.flat) = true) (R.ok (D.bl (if neg then !L2.inV (D.int c).v ((l.map D.int).map D.v) else L2.inV (D.int c).v ((l.map D.int).map D.v)))) = _
    rw [e]
    exact grd_ok g
theorem sort_li (l : List Int) : dSortI [li l] = .ok (li (srt l)) := by
  show (match (l.map D.int).mapM D.int? with | some ns => R.ok (D.lst ((srt ns).map D.int)) | none => R.stuck) = _
  rw [mapM_ints]
  rfl
theorem cut_top (l : List D) (n : Nat) (h : n ≤ l.length) : cutD l none (some (n : Int)) = l.take n := cut_upto n h
/-! ### rows as dicts' keys -/
section
variable {p : Int} {k : Nat} {fl : List Int} {w : Wd p k fl}
def dk (row : List (Fe w)) : List (L2.Key × D) := row.map fun y => (.inl y.v, .bl true)
theorem dk_get (row : List (Fe w)) (c : Int) : (getK (dk row) (.inl c)).isSome = decide (c ∈ fi row) := by
  unfold getK dk
  rw [Option.isSome_map]
  by_cases h : c ∈ fi row
  · rw [decide_eq_true h, List.find?_isSome]
    obtain ⟨y, hy, e⟩ := List.mem_map.mp h
    exact ⟨_, List.mem_map.mpr ⟨y, hy, rfl⟩, decide_eq_true (by rw [e])⟩
  · rw [decide_eq_false h]
    refine Bool.eq_false_iff.mpr fun q => ?_
    rw [List.find?_isSome] at q
    obtain ⟨z, hz, e⟩ := q
    obtain ⟨y, hy, rfl⟩ := List.mem_map.mp hz
    have := of_decide_eq_true e
    simp only [Sum.inl.injEq] at this
    exact h (List.mem_map.mpr ⟨y, hy, this⟩)
theorem dk_put {row : List (Fe w)} {y : Fe w} (h : y.v ∉ fi row) : putD (dk row) (.inl y.v) (.bl true) = dk (row ++ [y]) := by
  have e : ((dk row).any fun kv => decide (kv.1 = .inl y.v)) = false := by
    rw [List.any_eq_false]
    intro z hz q
    obtain ⟨x, hx, rfl⟩ := List.mem_map.mp hz
    have := of_decide_eq_true q
    simp only [Sum.inl.injEq] at this
    exact h (List.mem_map.mpr ⟨x, hx, this⟩)
  unfold putD
  rw [e, if_neg Bool.false_ne_true]
  unfold dk
  rw [List.map_append]
  rfl
theorem dk_len (row : List (Fe w)) : (dk row).length = row.length := List.length_map ..
theorem fi_app (l m : List (Fe w)) : fi (l ++ m) = fi l ++ fi m := List.map_append
theorem co_fi {row : List (Fe w)} {a : Nat} {x : Fe w} (h : row[a]? = some x) : a < (fi row).length ∧ co (fi row) a = x.v := by
  obtain ⟨hl, e⟩ := List.getElem?_eq_some_iff.mp h
  refine ⟨by rw [fi_len]; exact hl, ?_⟩
  rw [co_get (by rw [fi_len]; exact hl), fi_get, e]
theorem pin_snoc (x e : Fe w) (els row : List (Fe w)) : pin x (els ++ [e]) row = ins (pin x els row) (x * e) := by
  unfold pin
  rw [List.foldl_append]
  rfl
theorem gin_snoc (x e : Fe w) (els row : List (Fe w)) : gin x (els ++ [e]) row = ins (ins (gin x els row) (x + e)) (x * e) := by
  unfold gin
  rw [List.foldl_append]
  rfl
theorem pin_at {x : Fe w} {row : List (Fe w)} {a : Nat} (els : List (Fe w)) (h : row[a]? = some x) : (pin x els row)[a]? = some x := by
  obtain ⟨t, ht⟩ := pre_pin x els row
  rw [ht, List.getElem?_append_left (List.getElem?_eq_some_iff.mp h).1]
  exact h
theorem gin_at {x : Fe w} {row : List (Fe w)} {a : Nat} (els : List (Fe w)) (h : row[a]? = some x) : (gin x els row)[a]? = some x := by
  obtain ⟨t, ht⟩ := pre_gin x els row
  rw [ht, List.getElem?_append_left (List.getElem?_eq_some_iff.mp h).1]
  exact h
/-- a sorted row, of elements again -/
theorem of_fs (l : List (Fe w)) : ∃ l' : List (Fe w), fi l' = fs l ∧ (∀ x, x ∈ l' ↔ x ∈ l) ∧ (l.Nodup → l'.Nodup) := by
  have hel : ∀ c ∈ fs l, El p k c := fun c hc => by
    obtain ⟨y, _, rfl⟩ := List.mem_map.mp (fs_mem.mp hc)
    exact y.el
  have e : fi ((fs l).pmap (fun c hc => (⟨c, hc⟩ : Fe w)) hel) = fs l := by
    unfold fi
    rw [List.map_pmap]
    exact (List.pmap_eq_map ..).trans (List.map_id _)
  refine ⟨_, e, fun x => ?_, fun nd => ?_⟩
  · rw [List.mem_pmap]
    constructor
    · rintro ⟨c, hc, rfl⟩
      exact mem_fi.mp (fs_mem.mp hc)
    · intro hx
      exact ⟨x.v, fs_mem.mpr (mem_fi.mpr hx), rfl⟩
  · have n1 : (fs l).Nodup := (srt_perm (fi l)).nodup_iff.mpr (fi_nd nd)
    rw [← e] at n1
    exact List.Pairwise.of_map Fe.v (fun a b h q => h (by rw [q])) n1
end
end Y
/-! # T5 -/
set_option Elab.async false
set_option linter.all false
set_option maxRecDepth 100000
set_option maxHeartbeats 4000000
namespace Y
open Po PySem
theorem eqN (a b : Nat) : dEq (.int a) (.int b) = .ok (.bl (decide (a = b))) := by
  rw [eq_ii]
  have : decide ((a : Int) = (b : Int)) = decide (a = b) := by
    by_cases h : a = b
    · rw [decide_eq_true h, decide_eq_true (by rw [h])]
    · rw [decide_eq_false h, decide_eq_false (by omega)]
  rw [this]
theorem modN {a b : Nat} (h : 0 < b) : dMod (.int a) (.int b) = .ok (.int ((a % b : Nat) : Int)) := by
  rw [mod_ii (by omega), Int.natCast_emod]
theorem addN (i j : Nat) : dAdd (.int i) (.int j) = .ok (.int (i + j : Nat)) := add_nn i j
namespace K05
section
variable {p k g : Nat} {fl : List Int} {L : List Nat} {M : List Int} {w : Wd p k fl}
theorem tm_f (h : Fw p k fl g L) (t : Tb L M (p ^ k)) (x y : Fe h.w) : f_Field_times [fD p k fl g L M, .int x.v, .int y.v] = .ok (.int (x * y).v) := e_times h t x.el y.el
theorem pw_f (h : Fw p k fl g L) (t : Tb L M (p ^ k)) (x : Fe h.w) (n : Nat) : f_Field_power [fD p k fl g L M, .int x.v, .int n] = .ok (.int (x ^ n).v) := e_fpower h t x.el n
theorem tm_l (w : Wd p k fl) (x y : Fe w) : f_l_times [wD p fl, .int x.v, .int y.v] = .ok (.int (x * y).v) := e_ltimes w x.v y.v
theorem pl_l (w : Wd p k fl) (x y : Fe w) : f_l_plus [wD p fl, .int x.v, .int y.v] = .ok (.int (x + y).v) := e_lplus w x.v y.v
theorem row_at {row : List (Fe w)} {a : Nat} {x : Fe w} (h : row[a]? = some x) : dIx (li (fi row)) (.int a) = .ok (.int x.v) := by
  obtain ⟨h1, h2⟩ := co_fi h
  rw [ix_li h1, h2]
theorem split_at {xs : List (Fe w)} {i : Nat} {d : D} (hd : ((fi xs).map D.int)[i]? = some d) : ∃ e, d = .int e.v ∧ xs.take (i + 1) = xs.take i ++ [e] ∧ e ∈ xs := by
  rw [List.getElem?_map] at hd
  obtain ⟨c, hc, rfl⟩ := Option.map_eq_some_iff.mp hd
  unfold fi at hc
  rw [List.getElem?_map] at hc
  obtain ⟨e, he, rfl⟩ := Option.map_eq_some_iff.mp hc
  obtain ⟨hl, q⟩ := List.getElem?_eq_some_iff.mp he
  exact ⟨e, rfl, by rw [List.take_succ_eq_append_getElem hl, q], List.mem_of_getElem? he⟩
/-- the program's products -/
theorem e_made (h : Fw p k fl g L) (t : Tb L M (p ^ k)) {A : D} {els : List (Fe h.w)} (hA : Row A (fi els)) : f_made_products [fD p k fl g L M, A] = .ok (ti (fs (prun 60 els [1] 0))) := by
  have d1 : mergeD [] [(.inl 1, .bl true)] = dk [(1 : Fe h.w)] := by
    show [(Sum.inl 1, D.bl true)] = [(Sum.inl (1 : Fe h.w).v, D.bl true)]
    rw [Fe.one_v]
  have l1 : ([D.int 1] : List D) = (fi [(1 : Fe h.w)]).map D.int := by
    show _ = [D.int (1 : Fe h.w).v]
    rw [Fe.one_v]
  refine fun_ok (.seq (.ownD (kvs := dk [(1 : Fe h.w)]) (by rw [← d1]; rfl) ⟨_, rfl, .seq (.par2 (x := .ow ((fi [(1 : Fe h.w)]).map D.int)) (y := .sh (.int (0 : Nat))) (by rw [← l1]; rfl) rfl ⟨_, rfl, .seq (.while (fun n ρ => ∃ (row : List (Fe h.w)) (a : Nat), ρ = [.sh (fD p k fl g L M), .sh A, .dc (dk row), .ow ((fi row).map D.int), .sh (.int a), .no, .no] ∧ a + n = 60 ∧ PI els row a ∧ prun n els row a = prun 60 els [1] 0) 60 ⟨[1], 0, rfl, rfl, .first els, rfl⟩ ?_ ?_)⟩)⟩))
  · rintro n ρ ⟨row, a, rfl, hn, s, hr⟩
    have hl := row_len s.nd
    have ht : mTb (mBin dLt (mVarB 4) (mBi dLen (mCons (mVarB 3) mNil))) [.sh (fD p k fl g L M), .sh A, .dc (dk row), .ow ((fi row).map D.int), .sh (.int a), .no, .no] = .ok (decide (a < row.length)) :=
      vTb (vBin rfl (vBi (v1 (x := li (fi row)) rfl) (len_li _)) (by rw [fi_len]; exact lt_nn _ _))
    refine ⟨_, ht, fun hc => ?_⟩
    have hc := of_decide_eq_true hc
    obtain ⟨n, rfl⟩ : ∃ m, n = m + 1 := ⟨n - 1, by omega⟩
    have hx : row[a]? = some row[a] := List.getElem?_eq_getElem hc
    generalize row[a] = x at hx
    refine .seq (.for (fun i ρ => ρ = [.sh (fD p k fl g L M), .sh A, .dc (dk (pin x (els.take i) row)), .ow ((fi (pin x (els.take i) row)).map D.int), .sh (.int a), .no, .no]) (xs := (fi els).map D.int) (vIterR rfl hA) rfl ?_ ?_)
    · rintro i z ρ hz rfl
      obtain ⟨e, rfl, ht2, _⟩ := split_at hz
      rw [ht2, pin_snoc]
      have nd := nd_pin (x := x) (els := els.take i) s.nd
      have hx2 := pin_at (els.take i) hx
      generalize pin x (els.take i) row = r at *
      have lr := row_len nd
      refine ⟨_, rfl, .seq (.set (d := .int (x * e).v) (vMeth rfl rfl (v2 (vBin (x := li (fi r)) rfl rfl (row_at hx2)) rfl) rfl (tm_f h t x e)) ⟨_, rfl, ?_⟩)⟩
      have hin : mTb (mDIn true 2 (mVarB 6)) [.sh (fD p k fl g L M), .sh A, .dc (dk r), .ow ((fi r).map D.int), .sh (.int a), .sh (.int e.v), .sh (.int (x * e).v)] = .ok (!decide ((x * e).v ∈ fi r)) :=
        vTb ((vDIn (k := .inl (x * e).v) rfl rfl rfl).trans (by rw [dk_get, Bool.true_xor]))
      by_cases hm : (x * e).v ∈ fi r
      · rw [decide_eq_true hm] at hin
        refine .seq (.ifF hin (.skip ⟨_, rfl, .no (.no (.skip ⟨_, rfl, ?_⟩))⟩))
        rw [show ins r (x * e) = r from if_pos hm]
        rfl
      · rw [decide_eq_false hm] at hin
        refine .seq (.ifT hin (.seq (.dput (k := .inl (x * e).v) rfl rfl rfl rfl rfl (by rw [dk_len]; omega) ⟨_, rfl, .app rfl rfl (by rw [List.length_map, fi_len]; omega) ⟨_, rfl, .no (.no (.skip ⟨_, rfl, ?_⟩))⟩⟩)))
        rw [dk_put hm, show ins r (x * e) = r ++ [x * e] from if_neg hm, fi_app, List.map_append]
        rfl
    · rintro ρ rfl
      rw [li_len, fi_len, List.take_length]
      refine ⟨_, rfl, .seq (.aug rfl rfl (iadd1 a) ⟨_, rfl, .no (.no (.skip ⟨_, n, rfl, Nat.lt_succ_self n, _, a + 1, rfl, by omega, s.next hx, ?_⟩))⟩)⟩
      rw [← hr, prun, hx]
  · rintro ρ n ⟨row, a, rfl, hn, s, hr⟩ hf
    have hl := row_len s.nd
    have ht : mTb (mBin dLt (mVarB 4) (mBi dLen (mCons (mVarB 3) mNil))) [.sh (fD p k fl g L M), .sh A, .dc (dk row), .ow ((fi row).map D.int), .sh (.int a), .no, .no] = .ok (decide (a < row.length)) :=
      vTb (vBin rfl (vBi (v1 (x := li (fi row)) rfl) (len_li _)) (by rw [fi_len]; exact lt_nn _ _))
    rw [ht] at hf
    have hf := of_decide_eq_false (R.ok.inj hf)
    have hle := s.le
    obtain ⟨n, rfl⟩ : ∃ m, n = m + 1 := ⟨n - 1, by omega⟩
    rw [prun, List.getElem?_eq_none (by omega)] at hr
    exact ⟨_, rfl, .ret (d := ti (fs (prun 60 els [1] 0))) (vTupL (vBi (v1 (x := li (fi row)) rfl) (by rw [sort_li]; have hr : row = prun 60 els [1] 0 := hr; rw [hr]; rfl))) rfl⟩
/-- the law's products -/
theorem e_lprod (h : Fw p k fl g L) {els : List (Fe h.w)} : f_l_products [wD p fl, li (fi els)] = .ok (ti (fs (prun 60 els [1] 0))) := by
  have l1 : (D.lst [D.int 1] : D) = li (fi [(1 : Fe h.w)]) := by
    show _ = D.lst [D.int (1 : Fe h.w).v]
    rw [Fe.one_v]
  refine fun_ok (.seq (.par2 (x := .sh (li (fi [(1 : Fe h.w)]))) (y := .sh (.int (0 : Nat))) (by rw [← l1]; rfl) rfl ⟨_, rfl, .seq (.while (fun n ρ => ∃ (row : List (Fe h.w)) (a : Nat), ρ = [.sh (wD p fl), .sh (li (fi els)), .sh (li (fi row)), .sh (.int a), .no, .no] ∧ a + n = 60 ∧ PI els row a ∧ prun n els row a = prun 60 els [1] 0) 60 ⟨[1], 0, rfl, rfl, .first els, rfl⟩ ?_ ?_)⟩))
  · rintro n ρ ⟨row, a, rfl, hn, s, hr⟩
    have hl := row_len s.nd
    have ht : mAndT (mTb (mBin dLt (mVarB 3) (mBi dLen (mCons (mVarB 2) mNil)))) (mTb (mBin dLt (mVarB 3) (mC (.int 50)))) [.sh (wD p fl), .sh (li (fi els)), .sh (li (fi row)), .sh (.int a), .no, .no] = .ok (decide (a < row.length ∧ a < 50)) :=
      and_dec _ _ (vTb (vBin rfl (vBi (v1 rfl) (len_li _)) (by rw [fi_len]; exact lt_nn _ _))) (vTb (vBin rfl rfl (lt_nn a 50)))
    refine ⟨_, ht, fun hc => ?_⟩
    have hc := (of_decide_eq_true hc).1
    obtain ⟨n, rfl⟩ : ∃ m, n = m + 1 := ⟨n - 1, by omega⟩
    have hx : row[a]? = some row[a] := List.getElem?_eq_getElem hc
    generalize row[a] = x at hx
    refine .seq (.for (fun i ρ => ρ = [.sh (wD p fl), .sh (li (fi els)), .sh (li (fi (pin x (els.take i) row))), .sh (.int a), .no, .no]) (xs := (fi els).map D.int) (vIterR rfl (.inr rfl)) rfl ?_ ?_)
    · rintro i z ρ hz rfl
      obtain ⟨e, rfl, ht2, _⟩ := split_at hz
      rw [ht2, pin_snoc]
      have nd := nd_pin (x := x) (els := els.take i) s.nd
      have hx2 := pin_at (els.take i) hx
      generalize pin x (els.take i) row = r at *
      have lr := row_len nd
      refine ⟨_, rfl, .seq (.set (d := .int (x * e).v) (vCall (vCons rfl (v2 (vBin rfl rfl (row_at hx2)) rfl)) rfl (tm_l h.w x e)) ⟨_, rfl, ?_⟩)⟩
      have hin : mTb (mBin (dInG true) (mVarB 5) (mVarB 2)) [.sh (wD p fl), .sh (li (fi els)), .sh (li (fi r)), .sh (.int a), .sh (.int e.v), .sh (.int (x * e).v)] = .ok (!decide ((x * e).v ∈ fi r)) :=
        vTb (vBin rfl rfl (in_row _ true (.inr rfl)))
      by_cases hm : (x * e).v ∈ fi r
      · rw [decide_eq_true hm] at hin
        refine .seq (.ifF hin (.skip ⟨_, rfl, .no (.no (.skip ⟨_, rfl, ?_⟩))⟩))
        rw [show ins r (x * e) = r from if_pos hm]
        rfl
      · rw [decide_eq_false hm] at hin
        refine .seq (.ifT hin (.set (d := li (fi (r ++ [x * e]))) (vBin rfl (vFrz (vLst (v1 rfl) (by show 1 ≤ 16777216; decide))) ?_) ⟨_, rfl, .no (.no (.skip ⟨_, rfl, ?_⟩))⟩))
        · show dAdd (.lst ((fi r).map D.int)) _ = _
          rw [add_ll (by rw [li_len, fi_len]; show r.length + 1 ≤ _; omega), fi_app]
          unfold li
          rw [List.map_append]
          rfl
        · rw [show ins r (x * e) = r ++ [x * e] from if_neg hm]
          rfl
    · rintro ρ rfl
      rw [li_len, fi_len, List.take_length]
      refine ⟨_, rfl, .seq (.set (d := .int (a + 1 : Nat)) (vBin rfl rfl (addN a 1)) ⟨_, rfl, .no (.no (.skip ⟨_, n, rfl, Nat.lt_succ_self n, _, a + 1, rfl, by omega, s.next hx, ?_⟩))⟩)⟩
      rw [← hr, prun, hx]
  · rintro ρ n ⟨row, a, rfl, hn, s, hr⟩ hf
    have hl := row_len s.nd
    have ht : mAndT (mTb (mBin dLt (mVarB 3) (mBi dLen (mCons (mVarB 2) mNil)))) (mTb (mBin dLt (mVarB 3) (mC (.int 50)))) [.sh (wD p fl), .sh (li (fi els)), .sh (li (fi row)), .sh (.int a), .no, .no] = .ok (decide (a < row.length ∧ a < 50)) :=
      and_dec _ _ (vTb (vBin rfl (vBi (v1 rfl) (len_li _)) (by rw [fi_len]; exact lt_nn _ _))) (vTb (vBin rfl rfl (lt_nn a 50)))
    rw [ht] at hf
    have hf := of_decide_eq_false (R.ok.inj hf)
    have hle := s.le
    obtain ⟨n, rfl⟩ : ∃ m, n = m + 1 := ⟨n - 1, by omega⟩
    rw [prun, List.getElem?_eq_none (by omega)] at hr
    have hr : row = prun 60 els [1] 0 := hr
    exact ⟨_, rfl, .ret (d := ti (fs (prun 60 els [1] 0))) (vTupL (vBi (v1 rfl) (by rw [sort_li, ← hr]; rfl))) rfl⟩
end
end K05
end Y
/-! # T6 -/
set_option Elab.async false
set_option linter.all false
set_option maxRecDepth 100000
set_option maxHeartbeats 4000000
namespace Y
open Po PySem
/-! ### runs with draws: more -/
section
variable {ρ : Rho} {P : Out → Prop} {a b c d e r : Rho → R Out}
theorem Al.imp {a : Rho → R Out} {Q : Out → Prop} (h : Al a ρ Q) (k : ∀ o, Q o → P o) : Al a ρ P := ⟨R.all_imp k (fun _ z => z) h.h⟩
theorem mSeq_assoc (a b c : Rho → R Out) : mSeq (mSeq a b) c = mSeq a (mSeq b c) := by
  funext ρ
  unfold mSeq
  rw [R.bind_assoc]
  congr 1
  funext o
  cases o <;> rfl
theorem Al.cut2 (h : Al (mSeq a b) ρ fun o => ∃ ρ', o = .next ρ' ∧ Al r ρ' P) : Al (mSeq a (mSeq b r)) ρ P := by
  rw [← mSeq_assoc]
  exact Al.seq h
theorem Al.cut5 (h : Al (mSeq a (mSeq b (mSeq c (mSeq d e)))) ρ fun o => ∃ ρ', o = .next ρ' ∧ Al r ρ' P) : Al (mSeq a (mSeq b (mSeq c (mSeq d (mSeq e r))))) ρ P := by
  rw [show mSeq a (mSeq b (mSeq c (mSeq d (mSeq e r)))) = mSeq (mSeq a (mSeq b (mSeq c (mSeq d e)))) r by simp only [mSeq_assoc]]
  exact Al.seq h
theorem Al.ifA {t : Rho → R Bool} {a b : Rho → R Out} (h : Av (t ρ) fun _ => True) (k1 : Al a ρ P) (k2 : Al b ρ P) : Al (mIf t a b) ρ P := ⟨R.all_bx.mpr (R.all_imp (fun c _ => by
  cases c with
  | true => exact k1.h
  | false => exact k2.h) (fun _ z => z.elim) h.h)⟩
theorem Al.ifAF {t : Rho → R Bool} {a b : Rho → R Out} (h : Av (t ρ) fun c => c = false) (k2 : Al b ρ P) : Al (mIf t a b) ρ P := ⟨R.all_bx.mpr (R.all_imp (fun c hc => by
  subst hc
  exact k2.h) (fun _ z => z.elim) h.h)⟩
theorem aOrT {a b : Rho → R Bool} {Q : Bool → Prop} (h : a ρ = .ok false) (h2 : Av (b ρ) Q) : Av (mOrT a b ρ) Q := ⟨by
  unfold mOrT
  rw [h, R.bind_ok, if_neg Bool.false_ne_true]
  exact h2.h⟩
theorem aArgs {f : List D → R (List D)} {m : Rho → R (List D)} {Q : List D → Prop} (h : Av (m ρ) fun ds => Av (f ds) Q) : Av (mArgs f m ρ) Q := ⟨R.all_bind.mpr (R.all_imp (fun _ z => z.h) (fun _ z => z) h.h)⟩
theorem aCompA {own : List Nat} {mi : Rho → R (List D)} {bd : Bnd} {t : Rho → R Bool} {e : Rho → R D} {Q : List D → Prop} (h : Av (mi ρ) fun xs => Av (mComp own (fun _ => .ok xs) bd t e ρ) Q) : Av (mComp own mi bd t e ρ) Q := ⟨R.all_bind.mpr (R.all_imp (fun xs z => z.h) (fun _ z => z) h.h)⟩
theorem skip_al (k : P (.next ρ)) : Al mSkip ρ P := Go.al (.skip k)
end
theorem ne_of_eq {x y : D} {c : Bool} (h : dEq x y = .ok (.bl c)) : dNe x y = .ok (.bl (!c)) := by
  unfold dEq at h
  unfold dNe
  by_cases q : cmpOk x y = true
  · rw [grd_ok q] at h ⊢
    rw [D.bl.inj (R.ok.inj h)]
  · have e : (R.grd (cmpOk x y = true) (R.ok (D.bl (PyData.eqv x.py y.py))) : R D) = R.stuck := if_neg q
    rw [e] at h
    cases h
theorem ne_tt_self (l : List Int) : dNe (ti l) (ti l) = .ok (.bl false) := by
  have := ne_of_eq (eq_tt l l)
  rw [decide_eq_true rfl] at this
  exact this
theorem mulZ {n : Nat} (h : n < 1000000) : dMul (.lst [.int 0]) (.int n) = .ok (li (List.replicate n 0)) := by
  have e : (.lst (List.replicate n [D.int 0]).flatten : D) = li (List.replicate n 0) := by
    unfold li
    rw [flat_rep, List.map_replicate]
  rw [← e]
  exact grd_ok (p := -(2 ^ 63) ≤ (n : Int) ∧ (n : Int) < 2 ^ 63 ∧ [D.int 0].length * (n : Int).toNat ≤ 16777216) ⟨by omega, by omega, by simp; omega⟩
theorem mulTZ {n : Nat} (h : n < 1000) : dMulT (.tup [.int 0]) (.int n) = .ok (ti (List.replicate n 0)) := by
  have e : (.tup (List.replicate n [D.int 0]).flatten : D) = ti (List.replicate n 0) := by
    unfold ti
    rw [flat_rep, List.map_replicate]
  rw [← e]
  exact grd_ok (p := [D.int 0] ≠ [] ∧ -1000 ≤ (n : Int) ∧ (n : Int) ≤ 1000 ∧ [D.int 0].length ≤ 1000) ⟨by simp, by omega, by omega, by simp⟩
theorem rg1 {n : Nat} (h : n < 1000000) : dRange1 [.int n] = .ok (rangeD 0 n 1) := by
  have e : dRange1 [.int n] = R.grd (big n) (.ok (rangeD 0 (n : Int).toNat 1)) := rfl
  rw [e, Int.toNat_natCast]
  exact grd_ok (p := big n) ⟨by omega, by omega⟩
theorem least_ex {P : Nat → Prop} : ∀ n : Nat, P n → ∃ m, m ≤ n ∧ P m ∧ ∀ j, j < m → ¬ P j := fun n => by
  induction n using Nat.strongRecOn with
  | _ n ih =>
    intro h
    by_cases c : ∃ j, j < n ∧ P j
    · obtain ⟨j, hj, hp⟩ := c
      obtain ⟨m, h1, h2⟩ := ih j hj hp
      exact ⟨m, by omega, h2⟩
    · exact ⟨n, Nat.le_refl n, h, fun j hj hp => c ⟨j, hj, hp⟩⟩
namespace K05
theorem al_world : Av (f_l_world [.deal]) fun d => ∃ (p k : Nat) (fl : List Int), d = wD p fl ∧ Sz p k ∧ Wd p k fl ∧ Irr p (fl ++ [1]) := by
  refine fun_al (.seq (.asg (aCall (aOk (v1 rfl) ⟨rfl, al_size.imp ?_⟩))))
  rintro d ⟨p, k, rfl, s⟩
  refine ⟨_, rfl, _, rfl, .ret (aTup (aCons (aOk rfl (aCons (aC3 rfl rfl (aOk rfl ((al_modulus s).imp ?_)))))))⟩
  rintro d ⟨fl, rfl, w, ir⟩
  exact aOk rfl ⟨by show 2 ≤ 16777216; decide, _, rfl, p, k, fl, rfl, s, w, ir⟩
section
variable {p k g : Nat} {fl : List Int} {L : List Nat} {M : List Int}
theorem v_one (w : Wd p k fl) (a : Fe w) : a.v = 1 ↔ a = 1 := ⟨fun e => Fe.eq (by rw [e, Fe.one_v]), fun e => by rw [e, Fe.one_v]⟩
theorem v_zero (w : Wd p k fl) (a : Fe w) : a.v = 0 ↔ a = 0 := ⟨fun e => Fe.eq (by rw [e, Fe.zero_v]), fun e => by rw [e, Fe.zero_v]⟩
theorem iv_zero (w : Wd p k fl) : iv (0 : Fe w) = D.int 0 := congrArg D.int Fe.zero_v
theorem fe_order (h : Fw p k fl g L) {y : Fe h.w} (y0 : y ≠ 0) : ∃ o : Nat, 1 ≤ o ∧ o ≤ p ^ k - 1 ∧ y ^ o = 1 ∧ ∀ m, 1 ≤ m → m < o → y ^ m ≠ 1 := by
  have q2 := h.q2
  have e1 : y ^ (p ^ k - 1) = 1 := by
    have e := fe_q h y
    have e2 : p ^ k = (p ^ k - 1) + 1 := by omega
    rw [e2] at e
    have e3 : y ^ (p ^ k - 1) * y = 1 * y := by
      rw [← Lean.Grind.Semiring.pow_succ, e]
      exact (Lean.Grind.Semiring.one_mul y).symm
    have ny : y.v ≠ 0 := fun z => y0 ((v_zero h.w y).mp z)
    refine Fe.eq (h.cancel (y ^ (p ^ k - 1)).el (1 : Fe h.w).el y.el ny ?_)
    exact congrArg Fe.v e3
  obtain ⟨m, m1, m2, m3⟩ := least_ex (P := fun n => 1 ≤ n ∧ y ^ n = 1) (p ^ k - 1) ⟨by omega, e1⟩
  exact ⟨m, m2.1, m1, m2.2, fun j j1 j2 z => m3 j j2 ⟨j1, z⟩⟩
def ElD (h : Fw p k fl g L) (d : D) : Prop := ∃ x : Fe h.w, d = iv x
theorem el_any (h : Fw p k fl g L) : Av (f_any [.deal, .int ((p ^ k : Nat) : Int)]) (ElD h) := by
  have q2 := h.q2
  exact aAny (by omega) (by omega) fun r r0 r1 => ⟨⟨r, r0, by rw [← h.qk]; exact r1⟩, rfl⟩
theorem el_any1 (h : Fw p k fl g L) : Av (f_any [.deal, .int ((p ^ k - 1 : Nat) : Int)]) (fun d => ∃ x : Fe h.w, dAdd (.int 1) d = .ok (iv x) ∧ x ≠ 0) := by
  have q2 := h.q2
  refine aAny (by omega) (by omega) fun r r0 r1 => ⟨⟨1 + r, by omega, by rw [← h.qk]; omega⟩, rfl, fun z => ?_⟩
  have := (v_zero h.w _).mpr z
  simp only at this
  omega
end
end K05
end Y
/-! # T7 -/
set_option Elab.async false
set_option linter.all false
set_option maxRecDepth 100000
set_option maxHeartbeats 4000000
namespace Y
open Po PySem
namespace K05
section
variable {p k g : Nat} {fl : List Int} {L : List Nat} {M : List Int}
/-- the law's order of an element -/
theorem e_lorder (h : Fw p k fl g L) {x : Fe h.w} (x0 : x ≠ 0) : ∃ od : Nat, f_l_order [wD p fl, .int x.v, .int ((p ^ k : Nat) : Int)] = .ok (.int (od : Int)) ∧ 1 ≤ od ∧ od ≤ p ^ k - 1 ∧ x ^ od = 1 ∧ ∀ m, 1 ≤ m → m < od → x ^ m ≠ 1 := by
  obtain ⟨od, o1, o2, o3, o4⟩ := fe_order h x0
  refine ⟨od, ?_, o1, o2, o3, o4⟩
  have q2 := h.q2
  have y1 : (x ^ 1).v = x.v := pw_one h.w x.el
  refine fun_ok (.seq (.par2 (x := .sh (.int 1)) (y := .sh (.int (x ^ 1).v)) rfl (by rw [y1]; rfl) ⟨_, rfl, .seq (.for (fun i ρ => ρ = [.sh (wD p fl), .sh (.int x.v), .sh (.int ((p ^ k : Nat) : Int)), .no, .sh (.int ((min (i + 1) od : Nat) : Int)), .sh (.int (x ^ min (i + 1) od).v)]) (xs := rangeD 0 (p ^ k) 1) (r1 (p ^ k) rfl (by omega)) (by rw [show min (0 + 1) od = 1 by omega]; rfl) ?_ ?_)⟩))
  · rintro i z ρ hz rfl
    obtain ⟨rfl, hi⟩ := range_mem hz
    refine ⟨_, rfl, ?_⟩
    obtain ⟨m, hm⟩ : ∃ m, m = min (i + 1) od := ⟨_, rfl⟩
    rw [← hm]
    have ht : mTb (mBin dNe (mVarB 5) (mC (.int 1))) [.sh (wD p fl), .sh (.int x.v), .sh (.int ((p ^ k : Nat) : Int)), .sh (.int (0 + (i : Int))), .sh (.int (m : Int)), .sh (.int (x ^ m).v)] = .ok (!decide ((x ^ m).v = 1)) := vTb (vBin rfl rfl (ne_ii _ _))
    by_cases hlt : m < od
    · have n1 : (x ^ m).v ≠ 1 := fun z => o4 m (by omega) hlt ((v_one h.w _).mp z)
      rw [decide_eq_false n1] at ht
      refine .seq (.ifT ht (.par2 (x := .sh (.int (x ^ (m + 1)).v)) (y := .sh (.int (m + 1 : Nat))) (vSh (vCall (vCons rfl (v2 rfl rfl)) rfl (tm_l h.w (x ^ m) x))) (vSh (vBin rfl rfl (addN m 1))) ⟨_, rfl, .no (.skip ⟨_, rfl, ?_⟩)⟩))
      rw [show min (i + 1 + 1) od = m + 1 by omega]
      rfl
    · have e1 : m = od := by omega
      have n1 : (x ^ m).v = 1 := (v_one h.w _).mpr (by rw [e1]; exact o3)
      rw [decide_eq_true n1] at ht
      refine .seq (.ifF ht (.skip ⟨_, rfl, .no (.skip ⟨_, rfl, ?_⟩)⟩))
      rw [show min (i + 1 + 1) od = m by omega]
      rfl
  · rintro ρ rfl
    rw [rangeD_len, show min (p ^ k + 1) od = od by omega]
    exact ⟨_, rfl, .ret rfl rfl⟩
theorem lraised (w : Wd p k fl) (x : Fe w) {t : Nat} (ht : t < 2 ^ 64) : f_l_raised [wD p fl, .int x.v, .int (t : Int)] = .ok (.int (x ^ t).v) := e_lraised w x.el ht
theorem vPart {ρ : Rho} {m : Rho → R D} {c : Int} (h : m ρ = .ok (.int c)) : mPart m ρ = .ok (some c) := by
  unfold mPart
  rw [h]
  rfl
/-! ### sums and products told -/
theorem fold_snoc {w : Wd p k fl} (es : List (Fe w)) (e : Fe w) (r : List (Fe w)) : (es ++ [e]).foldl ins r = ins (es.foldl ins r) e := by
  rw [List.foldl_append]
  rfl
theorem nd_fold {w : Wd p k fl} : ∀ (es r : List (Fe w)), r.Nodup → (es.foldl ins r).Nodup
  | [], _, h => h
  | _ :: es, _, h => nd_fold es _ (nd_ins h)
theorem fold_at {w : Wd p k fl} {x : Fe w} {a : Nat} : ∀ (es r : List (Fe w)), r[a]? = some x → (es.foldl ins r)[a]? = some x
  | [], _, h => h
  | e :: es, r, h => fold_at es (ins r e) (by
    obtain ⟨t, ht⟩ := pre_ins r e
    rw [ht, List.getElem?_append_left (List.getElem?_eq_some_iff.mp h).1]
    exact h)
theorem e_lgrun (h : Fw p k fl g L) {els row0 : List (Fe h.w)} (nd0 : row0.Nodup) (hs : mBi dSortI (mCons (mBin dAdd (mVarB 1) (mFrz (mComp [4] (mIter (mTup (mCons (mC (.int 0)) (mCons (mC (.int 1)) mNil)))) (bName 4) (mTb (mBin (dInG true) (mVarB 4) (mVarB 1))) (mVar 4)))) mNil) [.sh (wD p fl), .sh (li (fi els)), .no, .no, .no, .no] = .ok (li (fi row0))) : f_l_grown [wD p fl, li (fi els)] = .ok (ti (fs (grun 60 row0 0))) := by
  refine fun_ok (.seq (.par2 (x := .sh (li (fi row0))) (y := .sh (.int (0 : Nat))) (vSh hs) rfl ⟨_, rfl, .seq (.while (fun n ρ => ∃ (row : List (Fe h.w)) (a : Nat), ρ = [.sh (wD p fl), .sh (li (fi els)), .sh (li (fi row)), .sh (.int a), .no, .no] ∧ a + n = 60 ∧ GI row0 row a ∧ grun n row a = grun 60 row0 0) 60 ⟨row0, 0, rfl, rfl, .first nd0, rfl⟩ ?_ ?_)⟩))
  · rintro n ρ ⟨row, a, rfl, hn, s, hr⟩
    have hl := row_len s.nd
    have ht : mAndT (mTb (mBin dLt (mVarB 3) (mBi dLen (mCons (mVarB 2) mNil)))) (mTb (mBin dLt (mVarB 3) (mC (.int 50)))) [.sh (wD p fl), .sh (li (fi els)), .sh (li (fi row)), .sh (.int a), .no, .no] = .ok (decide (a < row.length ∧ a < 50)) :=
      and_dec _ _ (vTb (vBin rfl (vBi (v1 rfl) (len_li _)) (by rw [fi_len]; exact lt_nn _ _))) (vTb (vBin rfl rfl (lt_nn a 50)))
    refine ⟨_, ht, fun hc => ?_⟩
    have hc := (of_decide_eq_true hc).1
    obtain ⟨n, rfl⟩ : ∃ m, n = m + 1 := ⟨n - 1, by omega⟩
    have hx : row[a]? = some row[a] := List.getElem?_eq_getElem hc
    generalize row[a] = x at hx
    have hit : mIter (mCut (mVarB 2) mNone (mPart (mBin dAdd (mVarB 3) (mC (.int 1))))) [.sh (wD p fl), .sh (li (fi els)), .sh (li (fi row)), .sh (.int a), .no, .no] = .ok ((fi (row.take (a + 1))).map D.int) := by
      refine vIterR (d := li (fi (row.take (a + 1)))) ?_ (.inr rfl)
      have e0 : mCut (mVarB 2) mNone (mPart (mBin dAdd (mVarB 3) (mC (.int 1)))) [.sh (wD p fl), .sh (li (fi els)), .sh (li (fi row)), .sh (.int a), .no, .no] = .ok (.lst (cutD ((fi row).map D.int) none (some ((a + 1 : Nat) : Int)))) := vCut rfl rfl (vPart (vBin rfl rfl (addN a 1)))
      rw [e0, cut_upto _ (by rw [li_len, fi_len]; omega)]
      unfold li fi
      rw [List.map_take, List.map_take]
    refine .seq (.for (fun i ρ => ρ = [.sh (wD p fl), .sh (li (fi els)), .sh (li (fi (gin x ((row.take (a + 1)).take i) row))), .sh (.int a), .no, .no]) (xs := (fi (row.take (a + 1))).map D.int) hit rfl ?_ ?_)
    · rintro i z ρ hz rfl
      obtain ⟨o, rfl, ht2, _⟩ := split_at hz
      rw [ht2, gin_snoc]
      have nd := nd_gin (x := x) (ones := (row.take (a + 1)).take i) s.nd
      have hx2 := gin_at ((row.take (a + 1)).take i) hx
      generalize gin x ((row.take (a + 1)).take i) row = r at *
      refine ⟨_, rfl, .seq (.for (fun j ρ => ρ = [.sh (wD p fl), .sh (li (fi els)), .sh (li (fi (([x + o, x * o].take j).foldl ins r))), .sh (.int a), .sh (.int o.v), .no]) (xs := (fi [x + o, x * o]).map D.int) (vIterR (d := ti (fi [x + o, x * o])) (vTup (v2 (vCall (vCons rfl (v2 (vBin rfl rfl (row_at hx2)) rfl)) rfl (pl_l h.w x o)) (vCall (vCons rfl (v2 (vBin rfl rfl (row_at hx2)) rfl)) rfl (tm_l h.w x o))) (by show 2 ≤ 16777216; decide)) (.inl rfl)) rfl ?_ ?_)⟩
      · rintro j z ρ hz rfl
        obtain ⟨e, rfl, ht3, _⟩ := split_at hz
        rw [ht3, fold_snoc]
        have nd2 := nd_fold ([x + o, x * o].take j) r nd
        generalize ([x + o, x * o].take j).foldl ins r = r2 at *
        have lr := row_len nd2
        refine ⟨_, rfl, ?_⟩
        have hin : mTb (mBin (dInG true) (mVarB 5) (mVarB 2)) [.sh (wD p fl), .sh (li (fi els)), .sh (li (fi r2)), .sh (.int a), .sh (.int o.v), .sh (.int e.v)] = .ok (!decide (e.v ∈ fi r2)) :=
          vTb (vBin rfl rfl (in_row _ true (.inr rfl)))
        by_cases hm : e.v ∈ fi r2
        · rw [decide_eq_true hm] at hin
          refine .seq (.ifF hin (.skip ⟨_, rfl, .no (.skip ⟨_, rfl, ?_⟩)⟩))
          rw [show ins r2 e = r2 from if_pos hm]
          rfl
        · rw [decide_eq_false hm] at hin
          refine .seq (.ifT hin (.set (d := li (fi (r2 ++ [e]))) (vBin rfl (vFrz (vLst (v1 rfl) (by show 1 ≤ 16777216; decide))) ?_) ⟨_, rfl, .no (.skip ⟨_, rfl, ?_⟩)⟩))
          · show dAdd (.lst ((fi r2).map D.int)) _ = _
            rw [add_ll (by rw [li_len, fi_len]; show r2.length + 1 ≤ _; omega), fi_app]
            unfold li
            rw [List.map_append]
            rfl
          · rw [show ins r2 e = r2 ++ [e] from if_neg hm]
            rfl
      · rintro ρ rfl
        exact ⟨_, rfl, .no (.no (.skip ⟨_, rfl, rfl⟩))⟩
    · rintro ρ rfl
      rw [li_len, fi_len, List.take_length]
      refine ⟨_, rfl, .seq (.set (d := .int (a + 1 : Nat)) (vBin rfl rfl (addN a 1)) ⟨_, rfl, .no (.no (.skip ⟨_, n, rfl, Nat.lt_succ_self n, _, a + 1, rfl, by omega, s.next hx, ?_⟩))⟩)⟩
      rw [← hr, grun, hx]
  · rintro ρ n ⟨row, a, rfl, hn, s, hr⟩ hf
    have hl := row_len s.nd
    have ht : mAndT (mTb (mBin dLt (mVarB 3) (mBi dLen (mCons (mVarB 2) mNil)))) (mTb (mBin dLt (mVarB 3) (mC (.int 50)))) [.sh (wD p fl), .sh (li (fi els)), .sh (li (fi row)), .sh (.int a), .no, .no] = .ok (decide (a < row.length ∧ a < 50)) :=
      and_dec _ _ (vTb (vBin rfl (vBi (v1 rfl) (len_li _)) (by rw [fi_len]; exact lt_nn _ _))) (vTb (vBin rfl rfl (lt_nn a 50)))
    rw [ht] at hf
    have hf := of_decide_eq_false (R.ok.inj hf)
    have hle := s.le
    obtain ⟨n, rfl⟩ : ∃ m, n = m + 1 := ⟨n - 1, by omega⟩
    rw [grun, List.getElem?_eq_none (by omega)] at hr
    have hr : row = grun 60 row0 0 := hr
    exact ⟨_, rfl, .ret (d := ti (fs (grun 60 row0 0))) (vTupL (vBi (v1 rfl) (by rw [sort_li, ← hr]; rfl))) rfl⟩
end
end K05
end Y
/-! # T8 -/
set_option Elab.async false
set_option linter.all false
set_option maxRecDepth 100000
set_option maxHeartbeats 4000000
namespace Y
open Po PySem
namespace K05
section
variable {p k g : Nat} {fl : List Int} {L : List Nat} {M : List Int}
/-- the law's closure is a lot -/
theorem e_lgrown (h : Fw p k fl g L) (s : Sz p k) {els : List (Fe h.w)} (nd : els.Nodup) : ∃ e, e ∣ k ∧ f_l_grown [wD p fl, li (fi els)] = .ok (ti (lotI h e)) ∧ (∀ y ∈ els, Ft.it (ph h.w) e y = y) ∧ ∀ d, d ∣ k → (∀ y ∈ els, Ft.it (ph h.w) d y = y) → e ≤ d := by
  have hl := row_len nd
  obtain ⟨mis, hmis⟩ : ∃ mis, mis = [(0 : Fe h.w), 1].filter fun y => !decide (y.v ∈ fi els) := ⟨_, rfl⟩
  have mm : ∀ y, y ∈ mis ↔ (y = 0 ∨ y = 1) ∧ y ∉ els := fun y => by
    rw [hmis, List.mem_filter]
    constructor
    · rintro ⟨a, b⟩
      refine ⟨by simpa using a, fun hy => ?_⟩
      rw [decide_eq_true (mem_fi.mpr hy)] at b
      cases b
    · rintro ⟨a, b⟩
      refine ⟨by simpa using a, ?_⟩
      rw [decide_eq_false (fun z => b (mem_fi.mp z))]
      rfl
  have ndm : mis.Nodup := by
    rw [hmis]
    refine List.Nodup.sublist List.filter_sublist ?_
    exact List.nodup_cons.mpr ⟨fun z => fe_one_ne h.w (List.mem_singleton.mp z).symm, List.nodup_cons.mpr ⟨List.not_mem_nil, List.nodup_nil⟩⟩
  have ndE : (els ++ mis).Nodup := List.nodup_append.mpr ⟨nd, ndm, fun a ha b hb e => ((mm b).mp hb).2 (e ▸ ha)⟩
  obtain ⟨row0, r1', r2', r3'⟩ := of_fs (els ++ mis)
  have nd0 := r3' ndE
  have m0 : (0 : Fe h.w) ∈ row0 := (r2' 0).mpr (List.mem_append.mpr (Decidable.byCases (p := (0 : Fe h.w).v ∈ fi els) (fun z => .inl (mem_fi.mp z)) fun z => .inr ((mm 0).mpr ⟨.inl rfl, fun q => z (mem_fi.mpr q)⟩)))
  have m1 : (1 : Fe h.w) ∈ row0 := (r2' 1).mpr (List.mem_append.mpr (Decidable.byCases (p := (1 : Fe h.w).v ∈ fi els) (fun z => .inl (mem_fi.mp z)) fun z => .inr ((mm 1).mpr ⟨.inr rfl, fun q => z (mem_fi.mpr q)⟩)))
  obtain ⟨e, ek, e1, e2⟩ := grown_lot h s m0 m1
  have out := grun_ok 60 row0 0 (by omega) (GI.first nd0)
  have hfs : fs (grun 60 row0 0) = lotI h e := fs_sel h (stB h e) out.nd fun x => by rw [out.mem, e1, stB_iff]
  refine ⟨e, ek, ?_, fun y hy => (e1 y).mp (.base ((r2' y).mpr (List.mem_append_left _ hy))), fun d hd hy => e2 d hd fun y hm => ?_⟩
  · rw [← hfs]
    refine e_lgrun h nd0 (vBi (v1 (x := li (fi (els ++ mis))) (vBin (x := li (fi els)) (y := .lst (mis.map iv)) rfl (vFrz (vComp (xs := [(0 : Fe h.w), 1].map iv) ?_ (by show 2 ≤ 16777216; decide) ?_)) ?_)) ?_)
    · show _ = R.ok [D.int (0 : Fe h.w).v, D.int (1 : Fe h.w).v]
      rw [Fe.zero_v, Fe.one_v]
      rfl
    · rw [hmis]
      exact cLoop_fil iv (fun y => !decide (y.v ∈ fi els)) iv _ fun y _ => ⟨_, rfl, vTb (vBin rfl rfl (in_row _ true (.inr rfl))), fun _ => rfl⟩
    · show dAdd (.lst ((fi els).map D.int)) _ = _
      have hm2 : mis.length ≤ 2 := by rw [hmis]; exact List.length_filter_le _ _
      rw [add_ll (by rw [li_len, fi_len, List.length_map]; omega), fi_app]
      unfold li
      rw [List.map_append, fi_int mis]
    · rw [sort_li, r1']
      rfl
  · have hz : ∀ n, Ft.it (ph h.w) n (0 : Fe h.w) = 0 := fun n => (Ft.hm_it (ph_hm h s) n).zero
    have ho : ∀ n, Ft.it (ph h.w) n (1 : Fe h.w) = 1 := fun n => (Ft.hm_it (ph_hm h s) n).one
    rcases List.mem_append.mp ((r2' y).mp hm) with q | q
    · exact hy y q
    · rcases ((mm y).mp q).1 with rfl | rfl
      · exact hz d
      · exact ho d
/-! ### the lots of the program -/
def dv (k : Nat) : List Nat := ((List.range k).map (1 + ·)).filter fun d => decide (k % d = 0)
theorem dv_mem {k d : Nat} (hk : 1 ≤ k) : d ∈ dv k ↔ d ∣ k := by
  unfold dv
  rw [List.mem_filter, decide_eq_true_iff, List.mem_map]
  constructor
  · rintro ⟨_, h⟩
    exact Nat.dvd_of_mod_eq_zero h
  · intro h
    have h1 := Nat.le_of_dvd (by omega) h
    have h2 := Nat.pos_of_dvd_of_pos h (by omega)
    exact ⟨⟨d - 1, List.mem_range.mpr (by omega), by omega⟩, Nat.mod_eq_zero_of_dvd h⟩
theorem dv_lt (k : Nat) : (dv k).Pairwise (· < ·) := by
  unfold dv
  refine List.Pairwise.filter _ ?_
  rw [List.pairwise_map]
  exact List.pairwise_lt_range.imp fun h => by omega
theorem dv_len (k : Nat) : (dv k).length ≤ k := by
  unfold dv
  have := List.length_filter_le (fun d => decide (k % d = 0)) ((List.range k).map (1 + ·))
  rw [List.length_map, List.length_range] at this
  exact this
theorem rangeN (lo : Nat) (n : Nat) : rangeD lo n 1 = ((List.range n).map (lo + ·)).map fun (i : Nat) => D.int i := by
  rw [rangeD_map, List.map_map]
  refine List.map_congr_left fun i _ => ?_
  show D.int ((lo : Int) + (i : Int)) = D.int ((lo + i : Nat) : Int)
  rw [Int.natCast_add]
theorem e_divs (hk1 : 1 ≤ k) (hk : k < 1000) : f_divisors_of [.int k] = .ok (.tup ((dv k).map fun (d : Nat) => D.int d)) := by
  refine fun_ok (.ret (d := .tup ((dv k).map fun (d : Nat) => D.int d)) (vTupL (vFrz (vComp (xs := rangeD (1 : Nat) (k + 1 - 1) 1) (r2 1 (k + 1) (v2 rfl (vBin rfl rfl (addN k 1))) (by omega) (by omega)) (by rw [rangeD_len]; omega) ?_))) rfl)
  rw [rangeN, Nat.add_sub_cancel]
  unfold dv
  refine cLoop_fil (fun (d : Nat) => D.int d) (fun d => decide (k % d = 0)) (fun (d : Nat) => D.int d) _ fun d hd => ?_
  obtain ⟨i, _, rfl⟩ := List.mem_map.mp hd
  exact ⟨_, rfl, vTb (vBin (vBin rfl rfl (modN (by omega))) rfl (eqN (k % (1 + i)) 0)), fun _ => rfl⟩
/-- what the comprehension of one lot gives -/
theorem lot_int (h : Fw p k fl g L) (d : Nat) : (lotI h d).map D.int = ((List.range (p ^ k)).filter fun z => stB h d (en h z)).map fun (z : Nat) => D.int ((0 : Int) + (z : Int)) := by
  unfold lotI selI sel
  rw [List.map_map]
  rfl
theorem split_nat {F : Nat → D} {xs : List Nat} {i : Nat} {d : D} (hd : (xs.map F)[i]? = some d) : ∃ e, d = F e ∧ xs.take (i + 1) = xs.take i ++ [e] ∧ e ∈ xs := by
  rw [List.getElem?_map] at hd
  obtain ⟨e, he, rfl⟩ := Option.map_eq_some_iff.mp hd
  obtain ⟨hl, q⟩ := List.getElem?_eq_some_iff.mp he
  exact ⟨e, rfl, by rw [List.take_succ_eq_append_getElem hl, q], List.mem_of_getElem? he⟩
theorem pow_small (s : Sz p k) {d : Nat} (hd : d ∣ k) : d ≤ k ∧ p ^ d ≤ p ^ k := by
  obtain ⟨pm, k2, p2, p47, k1, k5, q49, _⟩ := s.ok
  have h1 := Nat.le_of_dvd (by omega) hd
  exact ⟨h1, Nat.pow_le_pow_right (by omega) h1⟩
theorem e_subs (h : Fw p k fl g L) (s : Sz p k) (t : Tb L M (p ^ k)) : f_all_subfields [fD p k fl g L M] = .ok (.tup ((dv k).map fun d => ti (lotI h d))) := by
  obtain ⟨pm, k2, p2, p47, k1, k5, q49, _⟩ := s.ok
  have q2 := h.q2
  have w := h.w
  refine fun_ok (.seq (.own (ds := []) rfl ⟨_, rfl, .seq (.for (fun i ρ => ρ = [.sh (fD p k fl g L M), .ow (((dv k).take i).map fun d => ti (lotI h d)), .no, .no, .no]) (xs := (dv k).map fun (d : Nat) => D.int d) ?_ rfl ?_ ?_)⟩))
  · have e1 := e_divs (k := k) (by omega) (by omega)
    have e2 : mCall 1 f_divisors_of (mCons (mUn (dFld 0 2) (mVarB 0)) mNil) ((List.map Sl.sh [fD p k fl g L M] ++ List.replicate (5 - 1) Sl.no).set 1 (Sl.ow [])) = .ok (.tup ((dv k).map fun (d : Nat) => D.int d)) := vCall (v1 (vUn rfl rfl)) rfl e1
    unfold mIter
    rw [e2]
    rfl
  · rintro i z ρ hz rfl
    obtain ⟨d, rfl, ht, hd⟩ := split_nat hz
    have hd := (dv_mem (by omega)).mp hd
    have hs := (pow_small s hd).1
    have dl := dv_len k
    refine ⟨_, rfl, .seq (.set (d := .int ((p ^ d : Nat) : Int)) (vCall (v2 (x := .int p) (y := .int d) (vUn rfl rfl) rfl) rfl (by rw [Int.natCast_pow]; exact e_power w.p1 w.p2 (by omega))) ⟨_, rfl, .seq (.app (d := ti (lotI h d)) rfl (vTupL (vFrz ?_)) (by rw [List.length_map, List.length_take]; omega) ⟨_, rfl, .no (.no (.skip ⟨_, rfl, ?_⟩))⟩)⟩)⟩
    · rw [lot_int]
      refine vComp (xs := rangeD 0 (p ^ k) 1) (r1 (p ^ k) (v1 (vUn rfl rfl)) (by omega)) (by rw [rangeD_len]; omega) ?_
      rw [rangeD_map]
      refine cLoop_fil (fun (z : Nat) => D.int ((0 : Int) + (z : Int))) (fun z => stB h d (en h z)) _ _ fun z hz => ?_
      have hz := List.mem_range.mp hz
      refine ⟨_, rfl, vTb (vBin (vMeth rfl rfl (v2 rfl rfl) rfl (d := .int (en h z ^ (p ^ d)).v) ?_) rfl ?_), fun _ => rfl⟩
      · rw [Int.zero_add, ← en_v h hz]
        exact pw_f h t (en h z) (p ^ d)
      · rw [Int.zero_add, ← en_v h hz]
        exact eq_ii _ _
    · rw [ht, List.map_append]
      rfl
  · rintro ρ rfl
    rw [List.length_map, List.take_length]
    exact ⟨_, rfl, .ret (d := .tup ((dv k).map fun d => ti (lotI h d))) (vTupL rfl) rfl⟩
end
end K05
end Y
/-! # T9 -/
set_option Elab.async false
set_option linter.all false
set_option maxRecDepth 100000
set_option maxHeartbeats 4000000
namespace Y
open Po PySem
theorem cut_any (l : List D) (n : Nat) : cutD l none (some (n : Int)) = l.take n := by
  by_cases h : n ≤ l.length
  · exact cut_upto n h
  · unfold cutD
    rw [show HT.sIx l.length l.length (some (n : Int)) = min n l.length from HT.sIx_nat l.length l.length n, HT.sIx_none, List.drop_zero, Nat.sub_zero, Nat.min_eq_right (by omega), List.take_length, List.take_of_length_le (by omega)]
theorem asc_head {l : List Nat} {m : Nat} (s : l.Pairwise (· < ·)) (hm : m ∈ l) (least : ∀ z ∈ l, m ≤ z) : ∃ tl, l = m :: tl := by
  cases l with
  | nil => exact absurd hm List.not_mem_nil
  | cons hd tl =>
    rcases List.mem_cons.mp hm with q | q
    · exact ⟨tl, by rw [q]⟩
    · have h1 := (List.pairwise_cons.mp s).1 m q
      have h2 := least hd List.mem_cons_self
      omega
theorem first_lcm {m a b : Nat} (hm : 1 ≤ m) (ha : a ∣ m) (hb : b ∣ m) : ∃ tl, (((List.range m).map (1 + ·)).filter fun z => decide (z % a = 0) && decide (z % b = 0)) = Nat.lcm a b :: tl := by
  have hl : Nat.lcm a b ∣ m := Nat.lcm_dvd ha hb
  have h1 := Nat.le_of_dvd (by omega) hl
  have h2 := Nat.pos_of_dvd_of_pos hl (by omega)
  refine asc_head (List.Pairwise.filter _ ?_) ?_ fun z hz => ?_
  · rw [List.pairwise_map]
    exact List.pairwise_lt_range.imp fun h => by omega
  · refine List.mem_filter.mpr ⟨List.mem_map.mpr ⟨Nat.lcm a b - 1, List.mem_range.mpr (by omega), by omega⟩, ?_⟩
    rw [decide_eq_true (Nat.mod_eq_zero_of_dvd (Nat.dvd_lcm_left a b)), decide_eq_true (Nat.mod_eq_zero_of_dvd (Nat.dvd_lcm_right a b))]
    rfl
  · obtain ⟨q1, q2⟩ := List.mem_filter.mp hz
    obtain ⟨i, _, rfl⟩ := List.mem_map.mp q1
    rw [Bool.and_eq_true, decide_eq_true_iff, decide_eq_true_iff] at q2
    exact Nat.le_of_dvd (by omega) (Nat.lcm_dvd (Nat.dvd_of_mod_eq_zero q2.1) (Nat.dvd_of_mod_eq_zero q2.2))
theorem all_bls {α : Type} (p : α → Bool) (f : List Bool → Bool) (l : List α) : dAllB f [.lst (l.map fun y => D.bl (p y))] = .ok (.bl (f (l.map p))) := by
  have e : (l.map fun y => D.bl (p y)).mapM D.bl? = some (l.map p) := by
    induction l with
    | nil => rfl
    | cons a l ih => simp [List.mapM_cons, ih, D.bl?]
  show (match (l.map fun y => D.bl (p y)).mapM D.bl? with | some bs => R.ok (D.bl (f bs)) | none => R.stuck) = _
  rw [e]
namespace K05
section
variable {p k g : Nat} {fl : List Int} {L : List Nat} {M : List Int}
theorem ord_dvd (h : Fw p k fl g L) {x : Fe h.w} {od : Nat} (o1 : 1 ≤ od) (o3 : x ^ od = 1) (o4 : ∀ m, 1 ≤ m → m < od → x ^ m ≠ 1) {n : Nat} (hn : x ^ n = 1) : od ∣ n := by
  have e : x ^ n = x ^ (n % od) := by
    conv => lhs; rw [← Nat.div_add_mod n od]
    rw [← pow_add2, ← pow_mul2, o3, Ft.pow_one']
    grind
  by_cases z : n % od = 0
  · exact Nat.dvd_of_mod_eq_zero z
  · exact absurd (e.symm.trans hn) (o4 _ (by omega) (Nat.mod_lt _ o1))
theorem pow_dvd (h : Fw p k fl g L) {x : Fe h.w} {c n : Nat} (e : x ^ c = 1) (d : c ∣ n) : x ^ n = 1 := by
  obtain ⟨t, rfl⟩ := d
  rw [← pow_mul2, e, Ft.pow_one']
theorem Com.nil (h : Fw p k fl g L) : Com h ([] : List (Fe h.w)) 1 := ⟨Nat.le_refl 1, fun e he => absurd he List.not_mem_nil, fun n _ => Nat.one_dvd n⟩
theorem Com.step (h : Fw p k fl g L) {els : List (Fe h.w)} {c od : Nat} {x : Fe h.w} (s : Com h els c) (x0 : x ≠ 0) (o1 : 1 ≤ od) (o3 : x ^ od = 1) (o4 : ∀ m, 1 ≤ m → m < od → x ^ m ≠ 1) : Com h (els ++ [x]) (Nat.lcm c od) := by
  refine ⟨Nat.lcm_pos s.c1 o1, fun e he hn => ?_, fun n hn => ?_⟩
  · rcases List.mem_append.mp he with q | q
    · exact pow_dvd h (s.all e q hn) (Nat.dvd_lcm_left c od)
    · rw [List.mem_singleton.mp q]
      exact pow_dvd h o3 (Nat.dvd_lcm_right c od)
  · exact Nat.lcm_dvd (s.dvd n fun e he => hn e (List.mem_append_left _ he)) (ord_dvd h o1 o3 o4 (hn x (List.mem_append_right _ (List.mem_singleton.mpr rfl)) x0))
def nzB {w : Wd p k fl} (x : Fe w) : Bool := decide (0 < x.v)
theorem nzB_iff {w : Wd p k fl} (x : Fe w) : nzB x = true ↔ x ≠ 0 := by
  unfold nzB
  rw [decide_eq_true_iff]
  constructor
  · intro q z
    rw [z, Fe.zero_v] at q
    omega
  · intro q
    have h1 : x.v ≠ 0 := fun z => q ((v_zero w x).mp z)
    have h2 := x.el.1
    omega
theorem Com.of (h : Fw p k fl g L) {els : List (Fe h.w)} {c : Nat} (s : Com h (els.filter nzB) c) : Com h els c :=
  ⟨s.c1, fun e he hn => s.all e (List.mem_filter.mpr ⟨he, (nzB_iff e).mpr hn⟩) hn, fun n hn => s.dvd n fun e he => hn e (List.mem_filter.mp he).1⟩
open Classical in
noncomputable def ord (h : Fw p k fl g L) (x : Fe h.w) : Nat := if hx : x ≠ 0 then (e_lorder h hx).choose else 1
theorem ord_ok (h : Fw p k fl g L) {x : Fe h.w} (hx : x ≠ 0) : f_l_order [wD p fl, .int x.v, .int ((p ^ k : Nat) : Int)] = .ok (.int (ord h x : Int)) ∧ 1 ≤ ord h x ∧ ord h x ≤ p ^ k - 1 ∧ x ^ ord h x = 1 ∧ ∀ m, 1 ≤ m → m < ord h x → x ^ m ≠ 1 := by
  have e : ord h x = (e_lorder h hx).choose := by
    unfold ord
    exact dif_pos hx
  rw [e]
  exact (e_lorder h hx).choose_spec
/-! ### the roots -/
def rtN (h : Fw p k fl g L) (c : Nat) : List Nat := ((List.range (p ^ k - 1)).map (1 + ·)).filter fun z => decide ((en h z ^ c).v = 1)
def rtI (h : Fw p k fl g L) (c : Nat) : List Int := (rtN h c).map fun (z : Nat) => (z : Int)
theorem rt_mem (h : Fw p k fl g L) {c z : Nat} : z ∈ rtN h c ↔ 1 ≤ z ∧ z < p ^ k ∧ en h z ^ c = 1 := by
  unfold rtN
  rw [List.mem_filter, List.mem_map, decide_eq_true_iff, v_one]
  constructor
  · rintro ⟨⟨i, hi, rfl⟩, q⟩
    have := List.mem_range.mp hi
    exact ⟨by omega, by omega, q⟩
  · rintro ⟨a, b, q⟩
    exact ⟨⟨z - 1, List.mem_range.mpr (by omega), by omega⟩, q⟩
theorem rt_lt (h : Fw p k fl g L) (c : Nat) : (rtN h c).Pairwise (· < ·) := by
  unfold rtN
  refine List.Pairwise.filter _ ?_
  rw [List.pairwise_map]
  exact List.pairwise_lt_range.imp fun h => by omega
theorem rt_len (h : Fw p k fl g L) {c : Nat} (hc : c ∣ (p ^ k - 1)) : (rtN h c).length = c := by
  have nd : ((rtN h c).map (en h)).Nodup := by
    unfold List.Nodup
    rw [List.pairwise_map]
    refine (rt_lt h c).imp_of_mem fun {a b} ha hb hlt e => ?_
    have e1 := congrArg Fe.v e
    rw [en_v h ((rt_mem h).mp ha).2.1, en_v h ((rt_mem h).mp hb).2.1] at e1
    omega
  have := roots_count h hc ((rtN h c).map (en h)) nd fun x => by
    rw [List.mem_map]
    constructor
    · rintro ⟨z, hz, rfl⟩
      obtain ⟨a, b, q⟩ := (rt_mem h).mp hz
      refine ⟨fun e => ?_, q⟩
      have e1 := congrArg Fe.v e
      rw [en_v h b, Fe.zero_v] at e1
      omega
    · rintro ⟨x0, q⟩
      obtain ⟨z, hz, rfl⟩ := en_of h x
      refine ⟨z, (rt_mem h).mpr ⟨?_, hz, q⟩, rfl⟩
      rcases Nat.eq_zero_or_pos z with e | e
      · exact absurd (Fe.eq (by rw [en_v h hz, Fe.zero_v, e]; rfl)) x0
      · exact e
  rw [List.length_map] at this
  exact this
/-- what made_products tells -/
theorem told_eq (h : Fw p k fl g L) {els R : List (Fe h.w)} {c : Nat} (o : PO els R) (s : Com h els c) : fs R = List.replicate (if (0 : Int) ∈ fi els then 1 else 0) 0 ++ rtI h c := by
  have m0 : (0 : Int) ∈ fi els ↔ (0 : Fe h.w) ∈ els := by
    have := mem_fi (l := els) (x := (0 : Fe h.w))
    rw [Fe.zero_v] at this
    exact this
  have mr : ∀ x : Fe h.w, x ∈ R ↔ (x = 0 ∧ (0 : Fe h.w) ∈ els) ∨ (x ≠ 0 ∧ x ^ c = 1) := fun x => by
    rw [o.mem]
    by_cases hx : x = 0
    · rw [hx, pr_zero h]
      exact ⟨fun q => .inl ⟨rfl, q⟩, fun q => q.elim (fun q => q.2) fun q => absurd rfl q.1⟩
    · rw [s.iff h hx]
      exact ⟨fun q => .inr ⟨hx, q⟩, fun q => q.elim (fun q => absurd q.1 hx) fun q => q.2⟩
  refine fs_eq o.nd (fun z => ?_) ?_
  · rw [List.mem_append, List.mem_replicate]
    unfold rtI
    rw [List.mem_map]
    constructor
    · rintro (⟨a, rfl⟩ | ⟨u, hu, rfl⟩)
      · by_cases q : (0 : Int) ∈ fi els
        · have := mem_fi.mpr ((mr 0).mpr (.inl ⟨rfl, m0.mp q⟩))
          rw [Fe.zero_v] at this
          exact this
        · rw [if_neg q] at a
          exact absurd rfl a
      · obtain ⟨a, b, q⟩ := (rt_mem h).mp hu
        rw [← en_v h b]
        refine mem_fi.mpr ((mr _).mpr (.inr ⟨fun e => ?_, q⟩))
        have e1 := congrArg Fe.v e
        rw [en_v h b, Fe.zero_v] at e1
        omega
    · intro hz
      obtain ⟨x, hx, rfl⟩ := List.mem_map.mp hz
      rcases (mr x).mp hx with ⟨rfl, q⟩ | ⟨x0, q⟩
      · rw [if_pos (m0.mpr q)]
        exact .inl ⟨by decide, Fe.zero_v⟩
      · obtain ⟨u, hu, rfl⟩ := en_of h x
        refine .inr ⟨u, (rt_mem h).mpr ⟨?_, hu, q⟩, (en_v h hu).symm⟩
        rcases Nat.eq_zero_or_pos u with e | e
        · exact absurd (Fe.eq (by rw [en_v h hu, Fe.zero_v, e]; rfl)) x0
        · exact e
  · refine List.pairwise_append.mpr ⟨?_, ?_, fun a ha b hb => ?_⟩
    · split
      · exact List.pairwise_singleton _ _
      · exact List.Pairwise.nil
    · unfold rtI
      rw [List.pairwise_map]
      exact (rt_lt h c).imp fun q => by omega
    · obtain ⟨u, hu, rfl⟩ := List.mem_map.mp hb
      have := ((rt_mem h).mp hu).1
      rw [(List.mem_replicate.mp ha).2]
      omega
/-! ### the least lot -/
theorem in_lot (h : Fw p k fl g L) (d : Nat) (y : Fe h.w) : y.v ∈ lotI h d ↔ Ft.it (ph h.w) d y = y := by
  rw [show lotI h d = fi (lotF h d) from selI_fi h _, mem_fi, mem_lot]
theorem e_least (h : Fw p k fl g L) (s : Sz p k) (t : Tb L M (p ^ k)) {A : D} {few : List (Fe h.w)} (hA : Row A (fi few)) (hn : few.length ≤ 100) {e : Nat} (he : e ∣ k) (hf : ∀ y ∈ few, Ft.it (ph h.w) e y = y) (mn : ∀ d, d ∣ k → (∀ y ∈ few, Ft.it (ph h.w) d y = y) → e ≤ d) : f_least_subfield [fD p k fl g L M, A] = .ok (ti (lotI h e)) := by
  obtain ⟨pm, k2, p2, p47, k1, k5, q49, _⟩ := s.ok
  have hi : mIter (mCall 1 f_all_subfields (mCons (mVar 0) mNil)) [.sh (fD p k fl g L M), .sh A, .no, .no] = .ok ((dv k).map fun d => ti (lotI h d)) := by
    have e2 : mCall 1 f_all_subfields (mCons (mVar 0) mNil) [.sh (fD p k fl g L M), .sh A, .no, .no] = .ok (.tup ((dv k).map fun d => ti (lotI h d))) := vCall (v1 rfl) rfl (e_subs h s t)
    unfold mIter
    rw [e2]
    rfl
  refine fun_ok (.seqr (.forR (fun i ρ => ρ = [.sh (fD p k fl g L M), .sh A, .no, .no] ∧ ∀ d ∈ (dv k).take i, ¬ ∀ y ∈ few, Ft.it (ph h.w) d y = y) (fun d => d = ti (lotI h e)) hi ⟨rfl, fun d hd => absurd hd List.not_mem_nil⟩ ?_ ?_ ?_))
  · rintro i z ρ hz ⟨rfl, no⟩
    obtain ⟨d, rfl, ht, hd⟩ := split_nat hz
    refine ⟨_, rfl, ?_⟩
    have hc : mTt (mBi (dAllB fun bs => bs.all id) (mCons (mFrz (mComp [3] (mIter (mVar 1)) (bName 3) mYes (mBin (dInG false) (mVarB 3) (mVarB 2)))) mNil)) [.sh (fD p k fl g L M), .sh A, .sh (ti (lotI h d)), .no] = .ok ((few.map fun y => decide (y.v ∈ lotI h d)).all id) := by
      refine vTt (vBi (v1 (vFrz (vComp (ys := few.map fun y => D.bl (decide (y.v ∈ lotI h d))) (vIterR rfl hA) (by rw [li_len, fi_len]; omega) ?_))) (all_bls (fun y : Fe h.w => decide (y.v ∈ lotI h d)) _ few))
      rw [fi_int]
      exact cLoop_all iv (fun y => D.bl (decide (y.v ∈ lotI h d))) few fun y hy => ⟨_, rfl, rfl, vBin rfl rfl (in_row _ false (.inl rfl))⟩
    by_cases q : ∀ y ∈ few, Ft.it (ph h.w) d y = y
    · have e1 : ((few.map fun y => decide (y.v ∈ lotI h d)).all id) = true := by
        rw [List.all_eq_true]
        intro b hb
        obtain ⟨y, hy, rfl⟩ := List.mem_map.mp hb
        exact decide_eq_true ((in_lot h d y).mpr (q y hy))
      rw [e1] at hc
      have hle := mn d ((dv_mem (by omega)).mp hd) q
      have ed : e = d := by
        have hm := (dv_mem (k := k) (by omega)).mpr he
        rw [← List.take_append_drop (i + 1) (dv k), ht] at hm
        rcases List.mem_append.mp hm with a | a
        · rcases List.mem_append.mp a with a | a
          · exact absurd hf (no e a)
          · exact List.mem_singleton.mp a
        · have pw := dv_lt k
          rw [← List.take_append_drop (i + 1) (dv k), ht] at pw
          have := (List.pairwise_append.mp pw).2.2 d (List.mem_append_right _ (List.mem_singleton.mpr rfl)) e a
          omega
      refine .seqr (.ifT hc (.ret (d := ti (lotI h d)) rfl (.inr ⟨_, rfl, ?_⟩)))
      exact .inr ⟨_, rfl, by rw [ed]⟩
    · have e1 : ((few.map fun y => decide (y.v ∈ lotI h d)).all id) = false := by
        rw [Bool.eq_false_iff]
        intro z
        rw [List.all_eq_true] at z
        exact q fun y hy => (in_lot h d y).mp (of_decide_eq_true (z _ (List.mem_map.mpr ⟨y, hy, rfl⟩)))
      rw [e1] at hc
      refine .seqr (.ifF hc (.skip (.inl ⟨_, rfl, .no (.skip (.inl ⟨_, rfl, rfl, fun d' hd' => ?_⟩))⟩)))
      rw [ht] at hd'
      rcases List.mem_append.mp hd' with a | a
      · exact no d' a
      · rw [List.mem_singleton.mp a]
        exact q
  · rintro ρ ⟨rfl, no⟩
    rw [List.length_map, List.take_length] at no
    exact absurd hf (no e ((dv_mem (by omega)).mpr he))
  · rintro d rfl
    exact .inr ⟨_, rfl, rfl⟩
/-- a lot is its own least -/
theorem lot_own (h : Fw p k fl g L) (s : Sz p k) {d e : Nat} (hd : d ∣ k) (he : e ∣ k) (hy : ∀ y ∈ lotF h d, Ft.it (ph h.w) e y = y) : d ≤ e := by
  have p2 := s.ok.2.2.1
  have h1 := len_sub (selF_nd h (stB h d)) (L := lotF h e) fun y q => (mem_lot h e y).mpr (hy y q)
  have h2 : (selF h (stB h d)).length = (lotF h d).length := rfl
  rw [h2, lot_len h s hd, lot_len h s he] at h1
  exact (Nat.pow_le_pow_iff_right (by omega)).mp h1
/-! ### few, each once -/
def dd {w : Wd p k fl} (few : List (Fe w)) : List (Fe w) := ((List.range few.length).filter fun i => !decide ((few.getD i 0).v ∈ fi (few.take i))).map fun i => few.getD i 0
theorem dd_mem {w : Wd p k fl} (few : List (Fe w)) (x : Fe w) : x ∈ dd few ↔ x ∈ few := by
  unfold dd
  rw [List.mem_map]
  constructor
  · rintro ⟨i, hi, rfl⟩
    have hi := List.mem_range.mp (List.mem_filter.mp hi).1
    rw [List.getD_eq_getElem?_getD, List.getElem?_eq_getElem hi]
    exact List.getElem_mem hi
  · intro hx
    obtain ⟨j, hj⟩ := List.mem_iff_getElem?.mp hx
    obtain ⟨m, _, hm, least⟩ := least_ex (P := fun i => few[i]? = some x) j hj
    have hml := (List.getElem?_eq_some_iff.mp hm).1
    have eg : few.getD m 0 = x := by rw [List.getD_eq_getElem?_getD, hm]; rfl
    refine ⟨m, List.mem_filter.mpr ⟨List.mem_range.mpr hml, ?_⟩, eg⟩
    rw [eg, decide_eq_false]
    · rfl
    · intro q
      obtain ⟨i, hi⟩ := List.mem_iff_getElem?.mp (mem_fi.mp q)
      rw [List.getElem?_take] at hi
      split at hi
      · exact least i (by assumption) hi
      · cases hi
theorem dd_nd {w : Wd p k fl} (few : List (Fe w)) : (dd few).Nodup := by
  unfold dd List.Nodup
  rw [List.pairwise_map]
  refine (List.Pairwise.filter _ List.pairwise_lt_range).imp_of_mem fun {a b} ha hb hlt e => ?_
  obtain ⟨hb1, hb2⟩ := List.mem_filter.mp hb
  have hb1 := List.mem_range.mp hb1
  have ga : few.getD a 0 = few[a]'(by omega) := by rw [List.getD_eq_getElem?_getD, List.getElem?_eq_getElem (by omega)]; rfl
  have hm : few.getD b 0 ∈ few.take b := by
    rw [← e, ga]
    exact List.mem_of_getElem? (i := a) (by rw [List.getElem?_take_of_lt hlt]; exact List.getElem?_eq_getElem (by omega))
  rw [decide_eq_true (mem_fi.mpr hm)] at hb2
  cases hb2
theorem enum_iv {w : Wd p k fl} (l : List (Fe w)) : enumD (l.map iv) = (List.range l.length).map fun i => D.tup [.int (i : Nat), iv (l.getD i 0)] := by
  refine List.ext_getElem (by rw [enumD_len, List.length_map, List.length_map, List.length_range]) fun i h1 h2 => ?_
  obtain ⟨x, hx, e⟩ := enumD_get (List.getElem?_eq_getElem h1)
  rw [e, List.getElem_map, List.getElem_range]
  rw [List.getElem?_map] at hx
  obtain ⟨y, hy, rfl⟩ := Option.map_eq_some_iff.mp hx
  rw [List.getD_eq_getElem?_getD, hy]
  rfl
end
end K05
end Y
/-! # T10 -/
set_option Elab.async false
set_option linter.all false
set_option maxRecDepth 100000
set_option maxHeartbeats 4000000
namespace Y
open Po PySem
section
variable {ρ : Rho} {P : D → Prop}
theorem vIterL {m : Rho → R D} {xs : List D} (h : m ρ = .ok (.lst xs)) : mIter m ρ = .ok xs := by
  unfold mIter
  rw [h]
  rfl
theorem vIterT {m : Rho → R D} {xs : List D} (h : m ρ = .ok (.tup xs)) : mIter m ρ = .ok xs := by
  unfold mIter
  rw [h]
  rfl
theorem aIterA {m : Rho → R D} {Q : List D → Prop} (h : Av (m ρ) fun d => ∃ xs, d = .lst xs ∧ Q xs) : Av (mIter m ρ) Q := ⟨R.all_bind.mpr (R.all_imp (fun d z => by
  obtain ⟨xs, rfl, q⟩ := z
  exact q) (fun _ z => z) h.h)⟩
theorem aCutP {m mh : Rho → R D} {xs : List D} (h : m ρ = .ok (.lst xs)) (h2 : Av (mh ρ) fun d => ∃ n : Nat, d = .int n ∧ P (.lst (cutD xs none (some (n : Int))))) : Av (mCut m mNone (mPart mh) ρ) P := ⟨by
  unfold mCut
  rw [h, R.bind_ok]
  refine R.all_bind.mpr ?_
  show ((mPart mh ρ).bind _).all P _
  refine R.all_bind.mpr (R.all_bind.mpr (R.all_imp (fun d z => ?_) (fun _ z => z) h2.h))
  obtain ⟨n, rfl, q⟩ := z
  exact q⟩
theorem vLstRg {m : Rho → R D} {n : Nat} (h : m ρ = .ok (.int n)) (hn : n < 1000000) : mLstRg m ρ = .ok (rangeD 0 n 1) := by
  unfold mLstRg
  rw [h]
  exact (grd_ok (p := -(2 ^ 62) ≤ (n : Int) ∧ (n : Int) ≤ 16777216) ⟨by omega, by omega⟩).trans (by rw [Int.toNat_natCast])
theorem vAndD {a b : Bool} {s t : Rho → R Bool} (h : s ρ = .ok a) (h2 : t ρ = .ok b) : mAndT s t ρ = .ok (a && b) := by
  unfold mAndT
  rw [h, R.bind_ok]
  cases a
  · rfl
  · exact h2
theorem vRevA {m : Rho → R D} {xs : List D} (h : m ρ = .ok (.lst xs)) : mRevA m ρ = .ok (.lst xs.reverse) := by
  unfold mRevA
  rw [h]
  rfl
end
theorem zipD_map {α : Type} (F G : α → D) (l : List α) : zipD (l.map F) (l.map G) = l.map fun a => .tup [F a, G a] := by
  unfold zipD
  induction l with
  | nil => rfl
  | cons a l ih =>
    simp only [List.map_cons, List.zip_cons_cons]
    rw [ih]
theorem in_strs {s : Str} {l : List Str} (h : s ∈ l) : dInG true (.str s) (.lst (l.map D.str)) = .ok (.bl false) := by
  have g : ((D.str s).flat && (l.map D.str).all D.flat) = true := by
    rw [show (D.str s).flat = true from rfl, Bool.true_and, List.all_eq_true]
    intro d hd
    obtain ⟨u, _, rfl⟩ := List.mem_map.mp hd
    rfl
  have e : L2.inV (D.str s).v ((l.map D.str).map D.v) = true := by
    unfold L2.inV
    rw [List.map_map, List.any_map, List.any_eq_true]
    refine ⟨s, h, ?_⟩
    show L2.eqV (.str s) (.str s) = true
    simp [L2.eqV]
  show R.grd (((D.str s).flat && (l.map D.str).all D.flat) = true) (R.ok (D.bl (if true then !L2.inV (D.str s).v ((l.map D.str).map D.v) else L2.inV (D.str s).v ((l.map D.str).map D.v)))) = _
  rw [grd_ok g, e]
  rfl
namespace K05
section
variable {p k g : Nat} {fl : List Int} {L : List Nat} {M : List Int}
theorem lot_rd (h : Fw p k fl g L) (d : Nat) : Rd 100 (lotI h d) := fun c hc => by
  obtain ⟨z, hz, rfl⟩ := List.mem_map.mp hc
  have := (sel_lt h hz).1
  have := h.q2
  omega
theorem lot_len49 (h : Fw p k fl g L) (d : Nat) : (lotI h d).length ≤ 49 := by
  have := row_len (selF_nd h (stB h d))
  rw [show (lotI h d).length = (selF h (stB h d)).length from selI_len h _]
  exact this
theorem rp_ex (h : Fw p k fl g L) (d : Nat) : ∃ s, dRepr [ti (lotI h d)] = .ok (.str s) ∧ PyData.strOk s = true := by
  have := lot_len49 h d
  exact sh_repr (Sh.ti (lot_rd h d)) (by omega) (by decide)
noncomputable def rp (h : Fw p k fl g L) (d : Nat) : Str := (rp_ex h d).choose
theorem rp_ok (h : Fw p k fl g L) (d : Nat) : dRepr [ti (lotI h d)] = .ok (.str (rp h d)) := (rp_ex h d).choose_spec.1
/-- how many elements are taken -/
theorem cnt (d : D) (hd : d ∈ [D.int 0, .int 1, .int 2, .int 3, .int 2, .int 3, .int 8, .int 5]) : ∃ n : Nat, d = .int n ∧ n ≤ 8 := by
  simp only [List.mem_cons, List.not_mem_nil, or_false] at hd
  rcases hd with rfl | rfl | rfl | rfl | rfl | rfl | rfl | rfl
  · exact ⟨0, rfl, by decide⟩
  · exact ⟨1, rfl, by decide⟩
  · exact ⟨2, rfl, by decide⟩
  · exact ⟨3, rfl, by decide⟩
  · exact ⟨2, rfl, by decide⟩
  · exact ⟨3, rfl, by decide⟩
  · exact ⟨8, rfl, by decide⟩
  · exact ⟨5, rfl, by decide⟩
theorem cnt2 (d : D) (hd : d ∈ [D.int 1, .int 2, .int 2, .int 8]) : ∃ n : Nat, d = .int n := by
  simp only [List.mem_cons, List.not_mem_nil, or_false] at hd
  rcases hd with rfl | rfl | rfl | rfl
  · exact ⟨1, rfl⟩
  · exact ⟨2, rfl⟩
  · exact ⟨2, rfl⟩
  · exact ⟨8, rfl⟩
/-- one element drawn -/
theorem one_el (h : Fw p k fl g L) {r : Rho} (h1 : mVar 1 r = .ok .deal) (h14 : mVar 14 r = .ok (.int ((p ^ k : Nat) : Int))) (h14' : mVarB 14 r = .ok (.int ((p ^ k : Nat) : Int))) : Av (mCall 2 f_l_of (mCons (mVar 1) (mCons (mFrz (mLst (mCons (mCall 2 f_l_any (mCons (mVar 1) (mCons (mVar 14) mNil))) (mCons (mCall 2 f_l_any (mCons (mVar 1) (mCons (mVar 14) mNil))) (mCons (mC (.int 1)) (mCons (mC (.int 0)) (mCons (mBin dSub (mVarB 14) (mC (.int 1))) mNil))))))) mNil)) r) (ElD h) := by
  have q2 := h.q2
  refine aCall (aCons (aOk h1 (aCons (aFrz (aLst (Av.imp (P := fun es => es.length = 5 ∧ ∀ d ∈ es, ElD h d) (fun es he => ⟨by rw [he.1]; decide, aOk rfl ⟨rfl, (al_ofD (by rw [he.1]; decide) (by rw [he.1]; decide)).imp fun d hd => he.2 d hd⟩⟩) ?_))))))
  have e1 : mBin dSub (mVarB 14) (mC (.int 1)) r = .ok (.int ((p ^ k - 1 : Nat) : Int)) := vBin h14' rfl (sub1 (by omega))
  exact aConsA (aC2 h1 h14 (el_any h)) (aConsA (aC2 h1 h14 (el_any h)) (aConsA (aOk rfl ⟨1, (congrArg D.int Fe.one_v).symm⟩) (aConsA (aOk rfl ⟨0, (iv_zero h.w).symm⟩) (aConsA (aOk e1 ⟨⟨((p ^ k - 1 : Nat) : Int), Int.natCast_nonneg _, by rw [← h.qk]; omega⟩, rfl⟩) aNilA))))
/-- the loop of the common exponent: one turn -/
theorem lcm_turn (h : Fw p k fl g L) {r : Rho} {c od : Nat} (hc : c ∣ p ^ k - 1) (ho : od ∣ p ^ k - 1) (c1 : 1 ≤ c) (o1 : 1 ≤ od) (hr : ∀ z : Nat, mVarB 6 (((wipeR r [20]).set 20 (.sh (.int (z : Int))))) = .ok (.int c) ∧ mVarB 7 (((wipeR r [20]).set 20 (.sh (.int (z : Int))))) = .ok (.int od) ∧ mVarB 20 (((wipeR r [20]).set 20 (.sh (.int (z : Int))))) = .ok (.int z) ∧ mVar 20 (((wipeR r [20]).set 20 (.sh (.int (z : Int))))) = .ok (.int z)) (h14 : mVar 14 r = .ok (.int ((p ^ k : Nat) : Int)))
    (hb : ∀ z : Nat, bName 20 (.int (z : Int)) (wipeR r [20]) = some ((wipeR r [20]).set 20 (.sh (.int (z : Int))))) :
    mBin dIx (mFrz (mComp [20] (mArgs dRange2 (mCons (mC (.int 1)) (mCons (mVar 14) mNil))) (bName 20) (mAndT (mTb (mBin dEq (mBin dMod (mVarB 20) (mVarB 6)) (mC (.int 0)))) (mTb (mBin dEq (mBin dMod (mVarB 20) (mVarB 7)) (mC (.int 0))))) (mVar 20))) (mC (.int 0)) r = .ok (.int (Nat.lcm c od : Nat)) := by
  have q2 := h.q2
  obtain ⟨tl, e⟩ := first_lcm (m := p ^ k - 1) (by omega) hc ho
  refine vBin (x := li ((Nat.lcm c od :: tl).map fun (z : Nat) => (z : Int))) (vFrz (vComp (xs := rangeD (1 : Nat) (p ^ k - 1) 1) (r2 1 (p ^ k) (v2 rfl h14) (by omega) (by omega)) (by rw [rangeD_len]; omega) ?_)) rfl (ix_li (i := 0) (by rw [List.length_map]; exact Nat.succ_pos _))
  rw [rangeN, ← e]
  refine (cLoop_fil (fun (d : Nat) => D.int d) (fun z => decide (z % c = 0) && decide (z % od = 0)) (fun (d : Nat) => D.int d) _ fun d _ => ?_).trans (by rw [List.map_map]; rfl)
  obtain ⟨a1, a2, a3, a4⟩ := hr d
  exact ⟨_, hb d, vAndD (vTb (vBin (vBin a3 a1 (modN (by omega))) rfl (eqN (d % c) 0))) (vTb (vBin (vBin a3 a2 (modN (by omega))) rfl (eqN (d % od) 0))), fun _ => a4⟩
end
end K05
end Y
/-! # T11 -/
set_option Elab.async false
set_option linter.all false
set_option maxRecDepth 100000
set_option maxHeartbeats 8000000
namespace Y
open Po PySem
namespace K05
section
variable {p k g : Nat} {fl : List Int} {L : List Nat} {M : List Int}
def LS (h : Fw p k fl g L) (M : List Int) (els : List (Fe h.w)) (A told : D) (c : Nat) (x8 x9 x10 x11 : Sl) (x12 : Sl) : Rho := [.no, .sh .deal, .sh (wD p fl), .sh (li (fi els)), .sh A, .sh told, .sh (.int (c : Int)), .no, x8, x9, x10, x11, x12, .sh (fD p k fl g L M), .sh (.int ((p ^ k : Nat) : Int)), .no, .no, .no, .no, .no, .no, .no]
theorem ne_false {a b : Int} (h : a = b) : dNe (.int a) (.int b) = .ok (.bl false) := by
  rw [ne_ii, decide_eq_true h]
  rfl
theorem ne_lls {a b : List Int} (h : a = b) : dNe (li a) (li b) = .ok (.bl false) := by
  rw [ne_ll, decide_eq_true h]
  rfl
theorem in_row0 {A : D} {l : List Int} (c : Int) (h : Row A l) : dInG false (.int c) A = .ok (.bl (decide (c ∈ l))) := in_row c false h
theorem mulB (b : Bool) : dMul (.lst [.int 0]) (.int ((if b = true then 1 else 0 : Nat) : Int)) = .ok (li (List.replicate (if b = true then 1 else 0) 0)) := mulZ (by split <;> omega)
theorem int_bl (b : Bool) : dInt [.bl b] = .ok (.int ((if b = true then 1 else 0 : Nat) : Int)) := by cases b <;> rfl
end
theorem math0 : Al f_law_b (.no :: .sh .deal :: List.replicate 20 .no) (fun o => o = .ret (.bl true)) := by
  unfold f_law_b
  refine .seq (.set (aCall (aOk (v1 rfl) ⟨rfl, al_world.imp ?_⟩)))
  rintro d ⟨p, k, fl, rfl, s, w0, ir⟩
  obtain ⟨o, rfl, ok⟩ := s.world w0 ir
  obtain ⟨pm, k2, p2, p47, k1, k5, q49, _⟩ := s.ok
  have h := ok.h
  obtain ⟨M, eM, t⟩ := e_initL h
  have w := h.w
  have q2 := h.q2
  refine ⟨_, rfl, .gseq (.asg (d := .tup [fD p k o.fl o.g o.L M, .int ((p ^ k : Nat) : Int)]) (vTup (v2 (vMake (v2 (vBin rfl rfl w_p) (vBin rfl rfl w_f)) rfl eM) (vCall (v2 (vBin rfl rfl w_p) (vBin (vBi (v1 (vBin rfl rfl w_f)) (len_li _)) rfl (sub1 w.len))) rfl (by rw [Int.natCast_pow]; exact e_lpower w.p1 w.p2 (by omega)))) (by show 2 ≤ 16777216; decide)) rfl ⟨_, rfl, ?_⟩)⟩
  -- the elements
  refine .seq (.own (aCompA (aArgs (aCons (aC2 rfl (vFrz (vLst (ds := [.int 0, .int 1, .int 2, .int 3, .int 2, .int 3, .int 8, .int 5]) rfl (by decide))) ((al_ofD (by decide) (by decide)).imp ?_))))))
  intro d hd
  obtain ⟨n, rfl, n8⟩ := cnt d hd
  refine aOk rfl (aOk (rg1 (by omega)) (Av.imp ?_ (aComp (xs := rangeD 0 n 1) (P := ElD h) rfl (by rw [rangeD_len]; omega) (fun x hx => ⟨_, rfl, rfl, one_el h rfl rfl rfl⟩))))
  rintro ys ⟨hl, hys⟩
  obtain ⟨els, rfl, _⟩ := chosen (F := iv) (Q := fun _ => True) (fun y hy => by obtain ⟨x, e⟩ := hys y hy; exact ⟨x, e, trivial⟩)
  rw [List.length_map, rangeD_len] at hl
  rw [← fi_int]
  refine ⟨_, rfl, .seq (.set (aC2 rfl (vFrz (vLst (v2 (vTupL (ds := (fi els).map D.int) rfl) (vFrz (seqR (l := fi els) rfl (.inr rfl)))) (by show 2 ≤ 16777216; decide))) ((al_ofD (by show 0 < 2; decide) (by show 2 < 1000; decide)).imp ?_)))⟩
  intro A hA0
  have hA : Row A (fi els) := by
    rcases List.mem_cons.mp hA0 with e | e
    · exact .inl e
    · exact .inr (List.mem_singleton.mp e)
  obtain ⟨R, hR⟩ : ∃ R, R = prun 60 els [1] 0 := ⟨_, rfl⟩
  have out : PO els R := by rw [hR]; exact prun_ok 60 [1] 0 (by omega) (PI.first els)
  have made : ∀ {A : D}, Row A (fi els) → f_made_products [fD p k o.fl o.g o.L M, A] = .ok (ti (fs R)) := fun ha => by rw [hR]; exact e_made h t ha
  have lmade : f_l_products [wD p o.fl, li (fi els)] = .ok (ti (fs R)) := by rw [hR]; exact e_lprod h
  have rl := row_len out.nd
  refine ⟨_, rfl, .gseq (.set (d := ti (fs R)) (vCallK rfl (v2 rfl rfl) ⟨rfl, rfl, rfl⟩ (made hA)) ⟨_, rfl, .frz rfl ?_⟩)⟩
  refine .gseq (.ifF (ne_reprT (l := fs R) rfl (vCall (v2 rfl rfl) rfl lmade) (fs_rd R) (by rw [fs_len]; omega)) (.skip ⟨_, rfl, ?_⟩))
  refine .gseq (.set (d := .int ((1 : Nat) : Int)) rfl ⟨_, rfl, .frzS rfl ?_⟩)
  -- the common exponent
  have hit : ∀ x8 : Sl, mIter (mFrz (mComp [12] (mIter (mVar 3)) (bName 12) (mTb (mBin dGt (mVarB 12) (mC (.int 0)))) (mCall 3 f_l_order (mCons (mVar 2) (mCons (mVar 12) (mCons (mVar 14) mNil)))))) (LS h M els A (ti (fs R)) 1 .no .no .no .no .no) = .ok ((els.filter nzB).map fun x => D.int (ord h x : Int)) := fun _ => by
    refine vIterL (vFrz (vComp (xs := (fi els).map D.int) (vIterR rfl (.inr rfl)) (by rw [li_len, fi_len]; omega) ?_))
    rw [fi_int]
    exact cLoop_fil iv nzB (fun x => D.int (ord h x : Int)) els fun x _ => ⟨_, rfl, vTb (vBin rfl rfl (gt_ii _ _)), fun q => vCall (vCons rfl (v2 rfl rfl)) rfl (ord_ok h ((nzB_iff x).mp q)).1⟩
  refine .gseq (.for (fun i ρ => ∃ c : Nat, ρ = LS h M els A (ti (fs R)) c .no .no .no .no .no ∧ Com h ((els.filter nzB).take i) c) (hit .no) ⟨1, rfl, Com.nil h⟩ ?_ ?_)
  · rintro i z ρ hz ⟨c, rfl, sc⟩
    rw [List.getElem?_map] at hz
    obtain ⟨x, hx, rfl⟩ := Option.map_eq_some_iff.mp hz
    obtain ⟨hil, ex⟩ := List.getElem?_eq_some_iff.mp hx
    have x0 : x ≠ 0 := (nzB_iff x).mp (List.mem_filter.mp (List.mem_of_getElem? hx)).2
    obtain ⟨_, o1, o2, o3, o4⟩ := ord_ok h x0
    have om : ord h x ∣ p ^ k - 1 := ord_dvd h o1 o3 o4 (fe_m h x0)
    refine ⟨_, rfl, .seq (.set (d := .int ((Nat.lcm c (ord h x) : Nat) : Int)) (lcm_turn h sc.m om sc.c1 o1 (fun z => ⟨rfl, rfl, rfl, rfl⟩) rfl fun z => rfl) ⟨_, rfl, .no (.skip ⟨_, rfl, Nat.lcm c (ord h x), rfl, ?_⟩)⟩)⟩
    rw [List.take_succ_eq_append_getElem hil, ex]
    exact sc.step h x0 o1 o3 o4
  rintro ρ ⟨c, rfl, sc⟩
  rw [List.length_map, List.take_length] at sc
  have sc := Com.of h sc
  have cm := sc.m
  have cle := Nat.le_of_dvd (by omega) cm
  have told := told_eq h out sc
  -- the roots
  refine ⟨_, rfl, .gseq (.own (ds := (rtI h c).map D.int) (vComp (xs := rangeD (1 : Nat) (p ^ k - 1) 1) (r2 1 (p ^ k) (v2 rfl rfl) (by omega) (by omega)) (by rw [rangeD_len]; omega) ?_) ⟨_, rfl, ?_⟩)⟩
  · rw [rangeN]
    refine (cLoop_fil (fun (z : Nat) => D.int z) (fun z => decide ((en h z ^ c).v = 1)) (fun (z : Nat) => D.int z) _ fun z hz => ?_).trans (by unfold rtI rtN; rw [List.map_map]; rfl)
    obtain ⟨i, hi, rfl⟩ := List.mem_map.mp hz
    have hi := List.mem_range.mp hi
    refine ⟨_, rfl, vTb (vBin (vCall (vCons rfl (v2 rfl rfl)) rfl ?_) rfl (eq_ii _ _)), fun _ => rfl⟩
    have e1 := en_v h (z := 1 + i) (by omega)
    rw [← e1]
    exact lraised h.w (en h (1 + i)) (by omega)
  have rtl := rt_len h cm
  refine .gseq (.ifF (vOr (vTb (vBin (vFrz (seqR (l := fs R) rfl (.inl rfl))) (vBin (vBin (vFrz (vLst (v1 rfl) (by show 1 ≤ 16777216; decide))) (vBi (v1 (vBin rfl rfl (in_row0 (A := li (fi els)) 0 (.inr rfl)))) (int_bl _)) (mulB _)) (y := li (rtI h c)) rfl (z := li (List.replicate (if decide ((0 : Int) ∈ fi els) = true then 1 else 0) 0 ++ rtI h c)) ?_) (ne_lls ?_))) (vTb (vBin (vBi (v1 rfl) (len_li (rtI h c))) rfl (ne_false ?_)))) (.skip ⟨_, rfl, ?_⟩))
  · show dAdd (.lst ((List.replicate (if decide ((0 : Int) ∈ fi els) = true then 1 else 0) 0).map D.int)) (.lst ((rtI h c).map D.int)) = _
    rw [add_ll (by rw [li_len, li_len, List.length_replicate]; unfold rtI; rw [List.length_map, rtl]; split <;> omega), ← List.map_append]
    rfl
  · rw [told]
    by_cases q : (0 : Int) ∈ fi els
    · rw [if_pos q, decide_eq_true q]; rfl
    · rw [if_neg q, decide_eq_false q]; rfl
  · unfold rtI
    rw [List.length_map, rtl]
  -- few
  refine .seq (.set (aCutP (xs := (fi els).map D.int) rfl (aC2 rfl (vFrz (vLst (ds := [.int 1, .int 2, .int 2, .int 8]) rfl (by decide))) ((al_ofD (by decide) (by decide)).imp ?_))))
  intro d hd
  obtain ⟨m, rfl⟩ := cnt2 d hd
  refine ⟨m, rfl, ?_⟩
  rw [cut_any, ← List.map_take]
  obtain ⟨few, hfew⟩ : ∃ few, few = els.take m := ⟨_, rfl⟩
  have efew : (fi els).take m = fi few := by rw [hfew]; unfold fi; rw [List.map_take]
  have lfew : few.length ≤ 8 := by rw [hfew, List.length_take]; omega
  rw [efew]
  obtain ⟨e, ek, eg, e1, e2⟩ := e_lgrown h s (dd_nd few)
  refine ⟨_, rfl, .gseq (.ifF (ne_reprT (l := lotI h e) (vCallK rfl (v2 rfl rfl) ⟨rfl, rfl, rfl⟩ (e_least h s t (few := few) (.inr rfl) (by omega) ek (fun y hy => e1 y ((dd_mem few y).mpr hy)) fun d hd hy => e2 d hd fun y q => hy y ((dd_mem few y).mp q))) (vCall (v2 rfl (vFrz (ds := (fi (dd few)).map D.int) (vComp (xs := enumD ((fi few).map D.int)) (vArgs (v1 rfl) (Row.enum (.inr rfl))) (by rw [enumD_len, li_len, fi_len]; omega) ?_))) rfl eg) (lot_rd h e) (by have := lot_len49 h e; omega)) (.skip ⟨_, rfl, ?_⟩))⟩
  · rw [fi_int, enum_iv, fi_int]
    refine (cLoop_fil (fun i : Nat => D.tup [.int (i : Nat), iv (few.getD i 0)]) (fun i => !decide ((few.getD i 0).v ∈ fi (few.take i))) (fun i => iv (few.getD i 0)) _ fun i hi => ?_).trans (by unfold dd; rw [List.map_map]; rfl)
    refine ⟨_, rfl, vTb (vBin rfl (vCut (xs := few.map iv) (lo := none) (hi := some (i : Int)) rfl rfl (vPart rfl)) ?_), fun _ => rfl⟩
    rw [cut_any, ← List.map_take, ← fi_int]
    exact in_row _ true (.inr rfl)
  -- the lots
  refine .gseq (.set (d := .tup ((dv k).map fun d => ti (lotI h d))) (vCallK rfl (v1 rfl) ⟨rfl, rfl, rfl⟩ (e_subs h s t)) ⟨_, rfl, ?_⟩)
  have dl := dv_len k
  refine .gseq (.own (ds := ((dv k).map fun d => ((p ^ d : Nat) : Int)).map D.int) (vComp (xs := rangeD (1 : Nat) (k + 1 - 1) 1) (r2 1 (k + 1) (v2 rfl (vBi (v1 (vBin rfl rfl w_f)) ((len_li _).trans (by rw [w.len])))) (by omega) (by omega)) (by rw [rangeD_len]; omega) ?_) ⟨_, rfl, ?_⟩)
  · rw [rangeN, Nat.add_sub_cancel]
    refine (cLoop_fil (fun (d : Nat) => D.int d) (fun d => decide (k % d = 0)) (fun (d : Nat) => D.int ((p ^ d : Nat) : Int)) _ fun d hd => ?_).trans (by unfold dv; rw [List.map_map]; rfl)
    obtain ⟨i, hi, rfl⟩ := List.mem_map.mp hd
    have hi := List.mem_range.mp hi
    refine ⟨_, rfl, vTb (vBin (vBin (vBin (vBi (v1 (vBin rfl rfl w_f)) (len_li _)) rfl (sub1 w.len)) rfl (modN (by omega))) rfl (eqN (k % (1 + i)) 0)), fun _ => vCall (v2 (vBin rfl rfl w_p) rfl) rfl ?_⟩
    rw [Int.natCast_pow]
    exact e_lpower w.p1 w.p2 (by omega)
  refine .gseq (.ifF (vOr (vNot (c := true) (vTt (vUn rfl (isi_tis _)))) (vTb (vBin (vFrz (ds := ((dv k).map fun d => ((p ^ d : Nat) : Int)).map D.int) (vComp (xs := (dv k).map fun d => ti (lotI h d)) (vIterT rfl) (by rw [List.length_map]; omega) ?_)) rfl (ne_lls rfl)))) (.skip ⟨_, rfl, ?_⟩))
  · refine (cLoop_all (fun d => ti (lotI h d)) (fun d => D.int ((p ^ d : Nat) : Int)) (dv k) fun d hd => ⟨_, rfl, rfl, vBi (v1 rfl) ((len_ti _).trans ?_)⟩).trans (by rw [List.map_map]; rfl)
    rw [show (lotI h d).length = (selF h (stB h d)).length from selI_len h _, show (selF h (stB h d)).length = (lotF h d).length from rfl, lot_len h s ((dv_mem (by omega)).mp hd)]
  -- every element's closure is a lot
  refine .seq (.forA (aIterA (Av.imp (P := fun d => ∃ l : List (Fe h.w), d = .lst (l.map iv)) (fun d hd => ?_) (aIf (aTb (aBin (aOk rfl (aOk rfl (aOk (lt_nn (p ^ k) 10) ⟨_, rfl, trivial⟩))))) (aOk (vFrz (vLstRg rfl (by omega))) ⟨(List.range (p ^ k)).map (en h), ?_⟩) (aFrz (aLst (aCons (aC2 rfl rfl ((el_any h).imp ?_)))))))))
  · obtain ⟨l, rfl⟩ := hd
    refine ⟨_, rfl, Go.al (.for (fun i ρ => ∃ x12 : Sl, ρ = LS h M els A (ti (fs R)) c (.ow ((rtI h c).map D.int)) (.sh (li (fi few))) (.sh (.tup ((dv k).map fun d => ti (lotI h d)))) (.ow (((dv k).map fun d => ((p ^ d : Nat) : Int)).map D.int)) x12) (xs := l.map iv) rfl ⟨.no, rfl⟩ ?_ ?_)⟩
    · rintro i z ρ hz ⟨x12, rfl⟩
      rw [List.getElem?_map] at hz
      obtain ⟨x, hx, rfl⟩ := Option.map_eq_some_iff.mp hz
      obtain ⟨e, ek, eg, _, _⟩ := e_lgrown h s (els := [x]) (List.nodup_cons.mpr ⟨List.not_mem_nil, List.nodup_nil⟩)
      refine ⟨_, rfl, .seq (.set (d := ti (lotI h e)) (vCall (v2 rfl (vFrz (vLst (v1 rfl) (by show 1 ≤ 16777216; decide)))) rfl eg) ⟨_, rfl, .seq (.ifF (vTb (vBin (vBi (v1 rfl) (rp_ok h e)) (vFrz (ds := ((dv k).map (rp h)).map D.str) (vComp (xs := (dv k).map fun d => ti (lotI h d)) (vIterT rfl) (by rw [List.length_map]; omega) ?_)) (in_strs (List.mem_map.mpr ⟨e, (dv_mem (by omega)).mpr ek, rfl⟩)))) (.skip ⟨_, rfl, .no (.skip ⟨_, rfl, .sh (iv x), rfl⟩)⟩))⟩)⟩
      exact (cLoop_all (fun d => ti (lotI h d)) (fun d => D.str (rp h d)) (dv k) fun d hd => ⟨_, rfl, rfl, vBi (v1 rfl) (rp_ok h d)⟩).trans (by rw [List.map_map]; rfl)
    rintro ρ ⟨x12, rfl⟩
    have hzip : ∀ x8 : Sl, mArgs dZipM (mCons (mVar 10) (mCons (mVar 11) mNil)) (LS h M els A (ti (fs R)) c x8 (.sh (li (fi few))) (.sh (.tup ((dv k).map fun d => ti (lotI h d)))) (.sh (li ((dv k).map fun d => ((p ^ d : Nat) : Int)))) x12) = .ok ((dv k).map fun d => .tup [ti (lotI h d), .int ((p ^ d : Nat) : Int)]) := fun x8 => by
      refine vArgs (v2 (x := .tup ((dv k).map fun d => ti (lotI h d))) (y := .lst ((dv k).map fun d => D.int ((p ^ d : Nat) : Int))) rfl (by show Y.R.ok (D.lst (((dv k).map fun d => ((p ^ d : Nat) : Int)).map D.int)) = _; rw [List.map_map]; rfl)) ?_
      rw [← zipD_map]
      exact grd_ok (by rw [List.length_map, List.length_map])
    refine ⟨_, rfl, .frz rfl (.gseq (.for (fun i ρ => ∃ x8 : Sl, ρ = LS h M els A (ti (fs R)) c x8 (.sh (li (fi few))) (.sh (.tup ((dv k).map fun d => ti (lotI h d)))) (.sh (li ((dv k).map fun d => ((p ^ d : Nat) : Int)))) x12) (hzip _) ⟨_, rfl⟩ ?_ ?_))⟩
    · rintro i z ρ hz ⟨x8, rfl⟩
      obtain ⟨d, rfl, _, hd⟩ := split_nat hz
      have hd := (dv_mem (by omega)).mp hd
      obtain ⟨dk, pd⟩ := pow_small s hd
      have alt : ∀ x : Fe h.w, (decide ((p ^ d : Nat) = p ^ k) || stB h d x) = stB h d x := fun x => by
        by_cases q : p ^ d = p ^ k
        · have e1 : stB h d x = true := by
            unfold stB
            rw [q, fe_q h x]
            exact decide_eq_true rfl
          rw [e1, Bool.or_true]
        · rw [decide_eq_false q, Bool.false_or]
      refine ⟨_, rfl, .seq (.own (ds := (lotI h d).map D.int) (vComp (xs := rangeD 0 (p ^ k) 1) (r1 (p ^ k) (v1 rfl) (by omega)) (by rw [rangeD_len]; omega) ?_) ⟨_, rfl, ?_⟩)⟩
      · rw [rangeD_map, lot_int]
        refine cLoop_fil (fun (z : Nat) => D.int ((0 : Int) + (z : Int))) (fun z => stB h d (en h z)) _ _ fun z hz => ?_
        have hz := List.mem_range.mp hz
        refine ⟨_, rfl, (vOrB (vTb (vBin rfl rfl (eqN _ _))) (vTb (vBin (vCall (vCons rfl (v2 rfl rfl)) rfl (z := .int (en h z ^ (p ^ d)).v) ?_) rfl ?_))).trans (by rw [alt]), fun _ => rfl⟩
        · rw [Int.zero_add, ← en_v h hz]
          exact lraised h.w (en h z) (by omega)
        · rw [Int.zero_add, ← en_v h hz]
          exact eq_ii _ _
      · have l49 := lot_len49 h d
        refine .seq (.ifF (vOr (ne_reprT (l := lotI h d) rfl (vTupL rfl) (lot_rd h d) (by omega)) ?_) (.skip ⟨_, rfl, .no (.no (.no (.skip ⟨_, rfl, .no, rfl⟩)))⟩))
        have lt9 : mTb (mBin dLt (mVarB 17) (mC (.int 9))) ((((LS h M els A (ti (fs R)) c x8 (.sh (li (fi few))) (.sh (.tup ((dv k).map fun d => ti (lotI h d)))) (.sh (li ((dv k).map fun d => ((p ^ d : Nat) : Int)))) x12).set 16 (.sh (ti (lotI h d)))).set 17 (.sh (.int ((p ^ d : Nat) : Int)))).set 8 (.ow ((lotI h d).map D.int))) = .ok (decide (p ^ d < 9)) := vTb (vBin rfl rfl (lt_nn _ _))
        refine (vAndD lt9 (b := false) (vTb (vBin (vCall (v2 rfl (vRevA rfl)) rfl (e_least h s t (few := (lotF h d).reverse) (.inr ?_) ?_ hd (fun y hy => (mem_lot h d y).mp (List.mem_reverse.mp hy)) fun e he hy => lot_own h s hd he fun y q => hy y (List.mem_reverse.mpr q))) rfl (ne_tt_self _)))).trans (by rw [Bool.and_false])
        · show D.lst ((lotI h d).map D.int).reverse = li (fi (lotF h d).reverse)
          unfold li fi
          rw [List.map_reverse, List.map_reverse, show lotI h d = fi (lotF h d) from selI_fi h _]
          rfl
        · rw [List.length_reverse, ← show (selF h (stB h d)).length = (lotF h d).length from rfl, ← selI_len]
          show (lotI h d).length ≤ 100
          omega
    · rintro ρ ⟨x8, rfl⟩
      exact ⟨_, rfl, Go.al (.ret (d := .bl true) (vAndV (vBin (vFrz (seqR (l := fi els) rfl hA)) rfl ((eq_ll (fi els) (fi els)).trans (by rw [decide_eq_true rfl]))) (vBin (vCall (v2 rfl (vTupL (ds := (fi els).map D.int) rfl)) rfl (made (.inl rfl))) rfl ((eq_tt (fs R) (fs R)).trans (by rw [decide_eq_true rfl])))) rfl)⟩
  · rw [rangeD_map, List.map_map]
    congr 1
    refine List.map_congr_left fun z hz => ?_
    show D.int ((0 : Int) + (z : Int)) = D.int (en h z).v
    rw [en_v h (List.mem_range.mp hz), Int.zero_add]
  · rintro d ⟨x, rfl⟩
    exact aOk rfl ⟨by show 1 ≤ 16777216; decide, [x], rfl⟩
theorem math : Md (f_law_b (.no :: .sh .deal :: List.replicate (n_law.length - 2) .no)) := al_md2 (m := f_law_b) rfl math0
end K05
end Y
/-! # E_K05 -/
set_option Elab.async false
set_option linter.all false
open PySem PySem.W PyProof.Rows
set_option maxRecDepth 100000 in
set_option maxHeartbeats 0 in
theorem PySem.Challenge.cw_eitheronce_k05_products_and_subfields_holds : PySem.Challenge.rw_eitheronce_k05_products_and_subfields.Holds := by
  w_on; o_law; k_head; (case hw => w_witness2)
  k_fill
  refine Y.walkG (l := PySem.Challenge.rw_eitheronce_k05_products_and_subfields) (n := 63) (k := 7) (x := "_law_script") (sp := fun w => Y.spLaw _) rfl (by decide) rfl ⟨⟨rfl, by decide, by decide⟩, rfl⟩ (fun w h Y => PySem.W.kIn_of Y) ?F (fun _ _ a ns hl hS => ⟨a, ns, rfl, hS, fun _ => rfl⟩)
  case F =>
    intro w mg fa h KX G hmg
    refine' Y.K05.all_mk KX G hmg ?aC_Field ?pg_Field ?hd_Field ?po_Field ?sa_Field ?mk_Field ?kC_Field ?na_Field0 ?na_Field1 ?na_Field2 ?na_Field3 ?na_Field4 ?na_Field5 ?na_Field6 ?H_law ?H_l_any ?H_l_deal ?H_l_of ?H_l_size ?H_l_power ?H_l_monic ?H_l_rest ?H_l_is_prime ?H_l_modulus ?H_l_world ?H_is_integer ?H_is_prime ?H_is_small_prime ?H_is_sequence ?H_is_below ?H_small_power ?H_numbered_polynomial ?H_trimmed_off ?H_polynomial_rest ?H_polynomial_factors ?H_wrong_modulus ?H_polynomial_product ?H_digits_of ?H_from_digits ?H_made_products ?H_l_digits ?H_l_number ?H_l_times ?H_l_products ?H_l_order ?H_l_raised ?H_divisors_of ?H_all_subfields ?H_least_subfield ?H_l_plus ?H_l_grown ?H_Field__multiplied ?H_Field__powers_from ?H_Field___init__ ?H_Field_times ?H_Field_power ?z_abs ?z_all ?z_bool ?z_enumerate ?z_int ?z_isinstance ?z_len ?z_list ?z_max ?z_range ?z_repr ?z_reversed ?z_sorted ?z_tuple ?z_zip ?kk_MOST_STATES Y.K05.math
    (case aC_Field => k_is)
    (case pg_Field => k_is)
    (case hd_Field => k_is)
    (case po_Field => k_is)
    (case sa_Field => k_is)
    (case mk_Field => k_is)
    (case kC_Field => k_is)
    (case na_Field0 => k_is)
    (case na_Field1 => k_is)
    (case na_Field2 => k_is)
    (case na_Field3 => k_is)
    (case na_Field4 => k_is)
    (case na_Field5 => k_is)
    (case na_Field6 => k_is)
    (case H_law => refine' Y.has_mk ?a ?l ?c ?k; (case a => k_is); (case l => k_is); (case c => k_is); (case k => k_is))
    (case H_l_any => refine' Y.has_mk ?a ?l ?c ?k; (case a => k_is); (case l => k_is); (case c => k_is); (case k => k_is))
    (case H_l_deal => refine' Y.has_mk ?a ?l ?c ?k; (case a => k_is); (case l => k_is); (case c => k_is); (case k => k_is))
    (case H_l_of => refine' Y.has_mk ?a ?l ?c ?k; (case a => k_is); (case l => k_is); (case c => k_is); (case k => k_is))
    (case H_l_size => refine' Y.has_mk ?a ?l ?c ?k; (case a => k_is); (case l => k_is); (case c => k_is); (case k => k_is))
    (case H_l_power => refine' Y.has_mk ?a ?l ?c ?k; (case a => k_is); (case l => k_is); (case c => k_is); (case k => k_is))
    (case H_l_monic => refine' Y.has_mk ?a ?l ?c ?k; (case a => k_is); (case l => k_is); (case c => k_is); (case k => k_is))
    (case H_l_rest => refine' Y.has_mk ?a ?l ?c ?k; (case a => k_is); (case l => k_is); (case c => k_is); (case k => k_is))
    (case H_l_is_prime => refine' Y.has_mk ?a ?l ?c ?k; (case a => k_is); (case l => k_is); (case c => k_is); (case k => k_is))
    (case H_l_modulus => refine' Y.has_mk ?a ?l ?c ?k; (case a => k_is); (case l => k_is); (case c => k_is); (case k => k_is))
    (case H_l_world => refine' Y.has_mk ?a ?l ?c ?k; (case a => k_is); (case l => k_is); (case c => k_is); (case k => k_is))
    (case H_is_integer => refine' Y.has_mk ?a ?l ?c ?k; (case a => k_is); (case l => k_is); (case c => k_is); (case k => k_is))
    (case H_is_prime => refine' Y.has_mk ?a ?l ?c ?k; (case a => k_is); (case l => k_is); (case c => k_is); (case k => k_is))
    (case H_is_small_prime => refine' Y.has_mk ?a ?l ?c ?k; (case a => k_is); (case l => k_is); (case c => k_is); (case k => k_is))
    (case H_is_sequence => refine' Y.has_mk ?a ?l ?c ?k; (case a => k_is); (case l => k_is); (case c => k_is); (case k => k_is))
    (case H_is_below => refine' Y.has_mk ?a ?l ?c ?k; (case a => k_is); (case l => k_is); (case c => k_is); (case k => k_is))
    (case H_small_power => refine' Y.has_mk ?a ?l ?c ?k; (case a => k_is); (case l => k_is); (case c => k_is); (case k => k_is))
    (case H_numbered_polynomial => refine' Y.has_mk ?a ?l ?c ?k; (case a => k_is); (case l => k_is); (case c => k_is); (case k => k_is))
    (case H_trimmed_off => refine' Y.has_mk ?a ?l ?c ?k; (case a => k_is); (case l => k_is); (case c => k_is); (case k => k_is))
    (case H_polynomial_rest => refine' Y.has_mk ?a ?l ?c ?k; (case a => k_is); (case l => k_is); (case c => k_is); (case k => k_is))
    (case H_polynomial_factors => refine' Y.has_mk ?a ?l ?c ?k; (case a => k_is); (case l => k_is); (case c => k_is); (case k => k_is))
    (case H_wrong_modulus => refine' Y.has_mk ?a ?l ?c ?k; (case a => k_is); (case l => k_is); (case c => k_is); (case k => k_is))
    (case H_polynomial_product => refine' Y.has_mk ?a ?l ?c ?k; (case a => k_is); (case l => k_is); (case c => k_is); (case k => k_is))
    (case H_digits_of => refine' Y.has_mk ?a ?l ?c ?k; (case a => k_is); (case l => k_is); (case c => k_is); (case k => k_is))
    (case H_from_digits => refine' Y.has_mk ?a ?l ?c ?k; (case a => k_is); (case l => k_is); (case c => k_is); (case k => k_is))
    (case H_made_products => refine' Y.has_mk ?a ?l ?c ?k; (case a => k_is); (case l => k_is); (case c => k_is); (case k => k_is))
    (case H_l_digits => refine' Y.has_mk ?a ?l ?c ?k; (case a => k_is); (case l => k_is); (case c => k_is); (case k => k_is))
    (case H_l_number => refine' Y.has_mk ?a ?l ?c ?k; (case a => k_is); (case l => k_is); (case c => k_is); (case k => k_is))
    (case H_l_times => refine' Y.has_mk ?a ?l ?c ?k; (case a => k_is); (case l => k_is); (case c => k_is); (case k => k_is))
    (case H_l_products => refine' Y.has_mk ?a ?l ?c ?k; (case a => k_is); (case l => k_is); (case c => k_is); (case k => k_is))
    (case H_l_order => refine' Y.has_mk ?a ?l ?c ?k; (case a => k_is); (case l => k_is); (case c => k_is); (case k => k_is))
    (case H_l_raised => refine' Y.has_mk ?a ?l ?c ?k; (case a => k_is); (case l => k_is); (case c => k_is); (case k => k_is))
    (case H_divisors_of => refine' Y.has_mk ?a ?l ?c ?k; (case a => k_is); (case l => k_is); (case c => k_is); (case k => k_is))
    (case H_all_subfields => refine' Y.has_mk ?a ?l ?c ?k; (case a => k_is); (case l => k_is); (case c => k_is); (case k => k_is))
    (case H_least_subfield => refine' Y.has_mk ?a ?l ?c ?k; (case a => k_is); (case l => k_is); (case c => k_is); (case k => k_is))
    (case H_l_plus => refine' Y.has_mk ?a ?l ?c ?k; (case a => k_is); (case l => k_is); (case c => k_is); (case k => k_is))
    (case H_l_grown => refine' Y.has_mk ?a ?l ?c ?k; (case a => k_is); (case l => k_is); (case c => k_is); (case k => k_is))
    (case H_Field__multiplied => refine' Y.hasM_mk ?a ?i ?l ?c ?k; (case a => k_is); (case i => k_is); (case l => k_is); (case c => k_is); (case k => k_is))
    (case H_Field__powers_from => refine' Y.hasM_mk ?a ?i ?l ?c ?k; (case a => k_is); (case i => k_is); (case l => k_is); (case c => k_is); (case k => k_is))
    (case H_Field___init__ => refine' Y.hasM_mk ?a ?i ?l ?c ?k; (case a => k_is); (case i => k_is); (case l => k_is); (case c => k_is); (case k => k_is))
    (case H_Field_times => refine' Y.hasM_mk ?a ?i ?l ?c ?k; (case a => k_is); (case i => k_is); (case l => k_is); (case c => k_is); (case k => k_is))
    (case H_Field_power => refine' Y.hasM_mk ?a ?i ?l ?c ?k; (case a => k_is); (case i => k_is); (case l => k_is); (case c => k_is); (case k => k_is))
    (case z_abs => k_is)
    (case z_all => k_is)
    (case z_bool => k_is)
    (case z_enumerate => k_is)
    (case z_int => k_is)
    (case z_isinstance => k_is)
    (case z_len => k_is)
    (case z_list => k_is)
    (case z_max => k_is)
    (case z_range => k_is)
    (case z_repr => k_is)
    (case z_reversed => k_is)
    (case z_sorted => k_is)
    (case z_tuple => k_is)
    (case z_zip => k_is)
    (case kk_MOST_STATES => k_is)
